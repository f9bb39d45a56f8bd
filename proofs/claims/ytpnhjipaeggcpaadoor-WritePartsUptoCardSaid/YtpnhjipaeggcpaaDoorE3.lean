/- A part of a proof, put together by this session's own program out of its texts. -/
import Derived.Test.YtpnhjipaeggcpaaDoorE2
import Derived.Shelf.Unicode.ValidAny
import Derived.Shelf.Strings.Builder1
import Derived.Shelf.Small.Utf8
import Derived.Shelf.Small.Strs
import Derived.Shelf.Strings.BuilderF
import Derived.Shelf.Strings.BuilderK
import Derived.Shelf.Strings.Search1
import Derived.Shelf.Strings.Search2
import Derived.Shelf.Strings.Search3
import Derived.Shelf.LaysM
import Derived.Shelf.Strings.Shaped
import Derived.Shelf.Strings.Prefix
import Derived.Shelf.Strings.Runes
import Derived.Shelf.Strings.IndexAny
import Derived.Shelf.Strings.AsciiSet
import Derived.Shelf.Strings.IndexAnyAll
import Derived.StillTailTactics
import Derived.Lib.SliceRun
set_option linter.unusedVariables false
set_option linter.unusedSimpArgs false
section
namespace Go.Proofs.YtpnhjipaeggcpaaDoor.X
open Go.RowKit Go.Proofs.YtpnhjipaeggcpaaDoorW.PrintWords Go.Proofs.YtpnhjipaeggcpaaDoorW.PrintLast Go.Proofs.YtpnhjipaeggcpaaDoorW.PrintMore
attribute [local go_sem] max2_int min2_int max_two min_two max_three min_three max_four min_four
mutual
def rows_right.l0 : Nat → Int → List (S35) → Int → Int → Option (Bool)
 | 0, _, _, _, _ => none
 | k + 1, x3, x6, x7, x8 => if x8 < x7 then (if 0 ≤ x8 then (if x8 < (x6.length : Int) then (if ((rd_T35 x6 x8).f0) < 0 then (rows_right.j1 k x6 x7 x8 true ((rd_T35 x6 x8).f0) ((rd_T35 x6 x8).f1) ((rd_T35 x6 x8).f2) ((rd_T35 x6 x8).f3) ((rd_T35 x6 x8).f4)) else (if ((rd_T35 x6 x8).f0) > x3 then (rows_right.j1 k x6 x7 x8 true ((rd_T35 x6 x8).f0) ((rd_T35 x6 x8).f1) ((rd_T35 x6 x8).f2) ((rd_T35 x6 x8).f3) ((rd_T35 x6 x8).f4)) else ((rows_row.f k ((rd_T35 x6 x8).f0) ((rd_T35 x6 x8).f1) ((rd_T35 x6 x8).f2) ((rd_T35 x6 x8).f3) ((rd_T35 x6 x8).f4)).bind fun t266 => (rows_right.j1 k x6 x7 x8 (!t266) ((rd_T35 x6 x8).f0) ((rd_T35 x6 x8).f1) ((rd_T35 x6 x8).f2) ((rd_T35 x6 x8).f3) ((rd_T35 x6 x8).f4))))) else (none)) else (none)) else (some true)
def rows_right.j1 : Nat → List (S35) → Int → Int → Bool → Int → Int → ByteArray → ByteArray → List (S41) → Option (Bool)
 | 0, _, _, _, _, _, _, _, _, _ => none
 | k + 1, x6, x7, x8, x25, x266000, x266001, x266002, x266003, x266004 => if x25 = true then (some false) else (if x266001 = 0 then (rows_right.l0 k (wrap64 (x266000 + 1)) x6 x7 (wrap64 (x8 + 1))) else (rows_right.l0 k x266000 x6 x7 (wrap64 (x8 + 1))))
end
def rows_right.f (k : Nat) (l0 : List (S35)) : Option (Bool) := rows_right.l0 k 0 l0 (l0.length : Int) 0
set_option maxHeartbeats 8000000 in
set_option maxRecDepth 100000 in
theorem rows_right.calls (k : Nat) (A0 : Option Addr) (c0 : Nat) (l0 : List (S35)) (r : Bool) (w : World) (hr0 : Kd.C k35 w A0 l0.length l0) (hc0 : l0.length ≤ c0) (h : rows_right.f k l0 = some r) :
  Calls Tryd.prog 44 #[.slice A0 l0.length c0] w fun e w' => e = .returned (.bool r) ∧ Below w.heap.size w w' := by
 have hu35 := Tryd.underlying35
 have HR0 := Aside0.mk hr0
 have HC0 := Aside0.mk hc0
 clear hr0 hc0
 have HB := Aside0.mk (Below.refl w.heap.size w)
 have H : (rows_right.l0 k 0 l0 (l0.length : Int) 0) = some r := h
 clear h
 have H' := Aside0.mk H
 clear H
 go_enter Tryd.func44, Tryd.ntmps44
 go_wp2
 go_loopg [3, 8] k (fun kq v3 v8 w' => ∃ (x3_1 : Int) (x8_1 : Int), v3 = .int .i64 x3_1 ∧ v8 = .int .i64 x8_1 ∧ Aside0 (rows_right.l0 kq x3_1 l0 (l0.length : Int) x8_1 = some r) ∧ Aside0 (kq ≤ k) ∧ Aside0 (Below w.heap.size w w'))
 case atStart => exact ⟨(0), (0), y4_, y4_, H', ⟨Nat.le_refl _⟩, ⟨y13_⟩⟩
 case round =>
  clear H'
  obtain ⟨x3_1, x8_1, rfl, rfl, HA, HK1, HB⟩ := hrel
  cases gk with
  | zero => exact absurd HA.out (by simp [rows_right.l0])
  | succ k1 =>
   have H := HA.out
   clear HA
   simp only [rows_right.l0] at H
   by_cases c2 : x8_1 < (l0.length : Int)
   ·rw [if_pos c2] at H
    have c2b0 : decide (x8_1 < (l0.length : Int)) = true := decide_eq_true c2
    clear c2
    by_cases c3 : 0 ≤ x8_1
    rotate_left
    ·rw [if_neg c3] at H
     exact absurd H (by simp)
    rw [if_pos c3] at H
    have c3b0 : decide (0 ≤ x8_1) = true := decide_eq_true c3
    clear c3
    by_cases c4 : x8_1 < (l0.length : Int)
    rotate_left
    ·rw [if_neg c4] at H
     exact absurd H (by simp)
    rw [if_pos c4] at H
    have c4b0 : decide (x8_1 < (l0.length : Int)) = true := decide_eq_true c4
    clear c4
    have HC5 := Aside0.mk H
    clear H
    have p264 : 0 ≤ (x8_1 : Int) := of_decide_eq_true y2_
    have q264 : x8_1 < (l0.length : Int) := of_decide_eq_true y2_
    obtain ⟨ad264, A264_4, c264_4, e264, hx264_0, hx264_1, hx264_2, hx264_3, hx264_4, hl264_4, hi264_4⟩ := at_T35 HR0.out x8_1 p264 q264
    cases e264
    replace hx264_0 := (HB.out.cell (World.block_lt_of_cell? w _ hx264_0)).trans hx264_0
    replace hx264_1 := (HB.out.cell (World.block_lt_of_cell? w _ hx264_1)).trans hx264_1
    replace hx264_2 := (HB.out.cell (World.block_lt_of_cell? w _ hx264_2)).trans hx264_2
    replace hx264_3 := (HB.out.cell (World.block_lt_of_cell? w _ hx264_3)).trans hx264_3
    replace hx264_4 := (HB.out.cell (World.block_lt_of_cell? w _ hx264_4)).trans hx264_4
    have HR264_4 := Aside0.mk hi264_4
    have HC264_4 := Aside0.mk hl264_4
    clear hi264_4 hl264_4
    replace p264 := eq_true p264
    replace q264 := eq_true q264
    go_upto_region 5 with (first | ((with_reducible refine gate_dst (N := 5) rfl ?_); refine box_event ?hg (N := 5) ?hd (cs := #[.int .i64 0, .int .i64 0, .string (⟨#[]⟩ : ByteArray), .string (⟨#[]⟩ : ByteArray), .slice none 0 0]) (t := 35) ?hr ?_; (case hd => rfl); (case hg => rfl); (case hr => first | (go_simp; done) | (go_simp; rfl)); intro gb265 hg w6 hbox hb; have n0_ := Aside0.mk (below_step y13_ hb); have n1_ := Aside0.mk (hbox); have n2_ := Aside0.mk ((by rw [hg]; exact (below_size y13_) : w.heap.size ≤ gb265)); have n3_ := Aside0.mk ((by rw [hg]; exact (below_size y13_) : w.heap.size ≤ gb265)); clear HB; have HB := n0_; have BK265 := n1_; have GW265 := n2_; have GE265 := n3_; clear n0_ n1_ n2_ n3_; clear hb hbox hg; have hcz7_0 : w6.cell? ⟨gb265, 0, none⟩ = some (.int .i64 0) := (blk_cell BK265.out 0).trans rfl; have hcz7_1 : w6.cell? ⟨gb265, 1, none⟩ = some (.int .i64 0) := (blk_cell BK265.out 1).trans rfl; have hcz7_2 : w6.cell? ⟨gb265, 2, none⟩ = some (.string (⟨#[]⟩ : ByteArray)) := (blk_cell BK265.out 2).trans rfl; have hcz7_3 : w6.cell? ⟨gb265, 3, none⟩ = some (.string (⟨#[]⟩ : ByteArray)) := (blk_cell BK265.out 3).trans rfl; have hcz7_4 : w6.cell? ⟨gb265, 4, none⟩ = some (.slice none 0 0) := (blk_cell BK265.out 4).trans rfl; have hfz7_0 := blk_frozen BK265.out 0; have hfz7_1 := blk_frozen BK265.out 1; have hfz7_2 := blk_frozen BK265.out 2; have hfz7_3 := blk_frozen BK265.out 3; have hfz7_4 := blk_frozen BK265.out 4))
    (try simp only [Act.put, List.setIfInBounds_toArray, List.set_cons_zero, List.set_cons_succ])
    go_cut [25] (fun v25 wc => ∃ (kq : Nat) (x25_4 : Bool), v25 = .bool x25_4 ∧ Aside0 (rows_right.j1 kq l0 (l0.length : Int) x8_1 x25_4 ((rd_T35 l0 x8_1).f0) ((rd_T35 l0 x8_1).f1) ((rd_T35 l0 x8_1).f2) ((rd_T35 l0 x8_1).f3) ((rd_T35 l0 x8_1).f4) = some r) ∧ Aside0 (kq ≤ k1) ∧ Aside0 (wc.heap[gb265]? = some (.cells #[.int .i64 ((rd_T35 l0 x8_1).f0), .int .i64 ((rd_T35 l0 x8_1).f1), .string ((rd_T35 l0 x8_1).f2), .string ((rd_T35 l0 x8_1).f3), (.slice A264_4 ((rd_T35 l0 x8_1).f4).length c264_4)] 35 (0, 0))) ∧ Aside0 (Below w.heap.size w wc))
    case first =>
     have H := HC5.out
     clear HC5
     by_cases c8 : ((rd_T35 l0 x8_1).f0) < 0
     ·rw [if_pos c8] at H
      have c8b0 : decide (((rd_T35 l0 x8_1).f0) < 0) = true := decide_eq_true c8
      clear c8
      (first | rw [c8b0] | (simp only [i64_w, i32_w]; rw [c8b0]) | skip)
      have H' := Aside0.mk H
      clear H
      have hcz9_0 : w6.cell? ⟨gb265, 0, none⟩ = some (.int .i64 0) := (blk_cell BK265.out 0).trans rfl
      have hcz9_1 : w6.cell? ⟨gb265, 1, none⟩ = some (.int .i64 0) := (blk_cell BK265.out 1).trans rfl
      have hcz9_2 : w6.cell? ⟨gb265, 2, none⟩ = some (.string (⟨#[]⟩ : ByteArray)) := (blk_cell BK265.out 2).trans rfl
      have hcz9_3 : w6.cell? ⟨gb265, 3, none⟩ = some (.string (⟨#[]⟩ : ByteArray)) := (blk_cell BK265.out 3).trans rfl
      have hcz9_4 : w6.cell? ⟨gb265, 4, none⟩ = some (.slice none 0 0) := (blk_cell BK265.out 4).trans rfl
      have hfz9_0 := blk_frozen BK265.out 0
      have hfz9_1 := blk_frozen BK265.out 1
      have hfz9_2 := blk_frozen BK265.out 2
      have hfz9_3 := blk_frozen BK265.out 3
      have hfz9_4 := blk_frozen BK265.out 4
      go_wp2
      go_meet
      case rel => exact ⟨_, (true), y4_, H', ⟨by have := HK1.out; first | omega | exact Nat.le_refl _⟩, ⟨by (with_reducible repeat (first | refine blk_drewN ?_ _ | refine blk_drew ?_ | refine blk_alloc ?_ _)); refine blk_put (cs := #[.int .i64 ((rd_T35 l0 x8_1).f0), .int .i64 ((rd_T35 l0 x8_1).f1), .string ((rd_T35 l0 x8_1).f2), .string ((rd_T35 l0 x8_1).f3), .slice none 0 0]) ?_ 4 _ rfl; (with_reducible repeat (first | refine blk_drewN ?_ _ | refine blk_drew ?_ | refine blk_alloc ?_ _)); refine blk_put (cs := #[.int .i64 ((rd_T35 l0 x8_1).f0), .int .i64 ((rd_T35 l0 x8_1).f1), .string ((rd_T35 l0 x8_1).f2), .string (⟨#[]⟩ : ByteArray), .slice none 0 0]) ?_ 3 _ rfl; (with_reducible repeat (first | refine blk_drewN ?_ _ | refine blk_drew ?_ | refine blk_alloc ?_ _)); refine blk_put (cs := #[.int .i64 ((rd_T35 l0 x8_1).f0), .int .i64 ((rd_T35 l0 x8_1).f1), .string (⟨#[]⟩ : ByteArray), .string (⟨#[]⟩ : ByteArray), .slice none 0 0]) ?_ 2 _ rfl; (with_reducible repeat (first | refine blk_drewN ?_ _ | refine blk_drew ?_ | refine blk_alloc ?_ _)); refine blk_put (cs := #[.int .i64 ((rd_T35 l0 x8_1).f0), .int .i64 0, .string (⟨#[]⟩ : ByteArray), .string (⟨#[]⟩ : ByteArray), .slice none 0 0]) ?_ 1 _ rfl; (with_reducible repeat (first | refine blk_drewN ?_ _ | refine blk_drew ?_ | refine blk_alloc ?_ _)); refine blk_put (cs := #[.int .i64 0, .int .i64 0, .string (⟨#[]⟩ : ByteArray), .string (⟨#[]⟩ : ByteArray), .slice none 0 0]) ?_ 0 _ rfl; (with_reducible repeat (first | refine blk_drewN ?_ _ | refine blk_drew ?_ | refine blk_alloc ?_ _)); exact BK265.out⟩, ⟨(y19_ GE265.out)⟩⟩
     ·rw [if_neg c8] at H
      have c8b0 : decide (((rd_T35 l0 x8_1).f0) < 0) = false := decide_eq_false c8
      clear c8
      (first | rw [c8b0] | (simp only [i64_w, i32_w]; rw [c8b0]) | skip)
      by_cases c10 : ((rd_T35 l0 x8_1).f0) > x3_1
      ·rw [if_pos c10] at H
       have c10b0 : decide (x3_1 < ((rd_T35 l0 x8_1).f0)) = true := decide_eq_true c10
       clear c10
       have H' := Aside0.mk H
       clear H
       have hcz11_0 : w6.cell? ⟨gb265, 0, none⟩ = some (.int .i64 0) := (blk_cell BK265.out 0).trans rfl
       have hcz11_1 : w6.cell? ⟨gb265, 1, none⟩ = some (.int .i64 0) := (blk_cell BK265.out 1).trans rfl
       have hcz11_2 : w6.cell? ⟨gb265, 2, none⟩ = some (.string (⟨#[]⟩ : ByteArray)) := (blk_cell BK265.out 2).trans rfl
       have hcz11_3 : w6.cell? ⟨gb265, 3, none⟩ = some (.string (⟨#[]⟩ : ByteArray)) := (blk_cell BK265.out 3).trans rfl
       have hcz11_4 : w6.cell? ⟨gb265, 4, none⟩ = some (.slice none 0 0) := (blk_cell BK265.out 4).trans rfl
       have hfz11_0 := blk_frozen BK265.out 0
       have hfz11_1 := blk_frozen BK265.out 1
       have hfz11_2 := blk_frozen BK265.out 2
       have hfz11_3 := blk_frozen BK265.out 3
       have hfz11_4 := blk_frozen BK265.out 4
       go_wp2
       go_meet
       case rel => exact ⟨_, (true), y4_, H', ⟨by have := HK1.out; first | omega | exact Nat.le_refl _⟩, ⟨by (with_reducible repeat (first | refine blk_drewN ?_ _ | refine blk_drew ?_ | refine blk_alloc ?_ _)); refine blk_put (cs := #[.int .i64 ((rd_T35 l0 x8_1).f0), .int .i64 ((rd_T35 l0 x8_1).f1), .string ((rd_T35 l0 x8_1).f2), .string ((rd_T35 l0 x8_1).f3), .slice none 0 0]) ?_ 4 _ rfl; (with_reducible repeat (first | refine blk_drewN ?_ _ | refine blk_drew ?_ | refine blk_alloc ?_ _)); refine blk_put (cs := #[.int .i64 ((rd_T35 l0 x8_1).f0), .int .i64 ((rd_T35 l0 x8_1).f1), .string ((rd_T35 l0 x8_1).f2), .string (⟨#[]⟩ : ByteArray), .slice none 0 0]) ?_ 3 _ rfl; (with_reducible repeat (first | refine blk_drewN ?_ _ | refine blk_drew ?_ | refine blk_alloc ?_ _)); refine blk_put (cs := #[.int .i64 ((rd_T35 l0 x8_1).f0), .int .i64 ((rd_T35 l0 x8_1).f1), .string (⟨#[]⟩ : ByteArray), .string (⟨#[]⟩ : ByteArray), .slice none 0 0]) ?_ 2 _ rfl; (with_reducible repeat (first | refine blk_drewN ?_ _ | refine blk_drew ?_ | refine blk_alloc ?_ _)); refine blk_put (cs := #[.int .i64 ((rd_T35 l0 x8_1).f0), .int .i64 0, .string (⟨#[]⟩ : ByteArray), .string (⟨#[]⟩ : ByteArray), .slice none 0 0]) ?_ 1 _ rfl; (with_reducible repeat (first | refine blk_drewN ?_ _ | refine blk_drew ?_ | refine blk_alloc ?_ _)); refine blk_put (cs := #[.int .i64 0, .int .i64 0, .string (⟨#[]⟩ : ByteArray), .string (⟨#[]⟩ : ByteArray), .slice none 0 0]) ?_ 0 _ rfl; (with_reducible repeat (first | refine blk_drewN ?_ _ | refine blk_drew ?_ | refine blk_alloc ?_ _)); exact BK265.out⟩, ⟨(y19_ GE265.out)⟩⟩
      ·rw [if_neg c10] at H
       have c10b0 : decide (x3_1 < ((rd_T35 l0 x8_1).f0)) = false := decide_eq_false c10
       clear c10
       replace H := Option.bind_eq_some_iff.mp H
       obtain ⟨t266, A120, H⟩ := H
       have A12 := Aside0.mk A120
       clear A120
       have H' := Aside0.mk H
       clear H
       have hcz13_0 : w6.cell? ⟨gb265, 0, none⟩ = some (.int .i64 0) := (blk_cell BK265.out 0).trans rfl
       have hcz13_1 : w6.cell? ⟨gb265, 1, none⟩ = some (.int .i64 0) := (blk_cell BK265.out 1).trans rfl
       have hcz13_2 : w6.cell? ⟨gb265, 2, none⟩ = some (.string (⟨#[]⟩ : ByteArray)) := (blk_cell BK265.out 2).trans rfl
       have hcz13_3 : w6.cell? ⟨gb265, 3, none⟩ = some (.string (⟨#[]⟩ : ByteArray)) := (blk_cell BK265.out 3).trans rfl
       have hcz13_4 : w6.cell? ⟨gb265, 4, none⟩ = some (.slice none 0 0) := (blk_cell BK265.out 4).trans rfl
       have hfz13_0 := blk_frozen BK265.out 0
       have hfz13_1 := blk_frozen BK265.out 1
       have hfz13_2 := blk_frozen BK265.out 2
       have hfz13_3 := blk_frozen BK265.out 3
       have hfz13_4 := blk_frozen BK265.out 4
       go_wp2_with (first | (go_at_call 66; (with_reducible refine (rows_row.calls k1 ((rd_T35 l0 x8_1).f0) ((rd_T35 l0 x8_1).f1) ((rd_T35 l0 x8_1).f2) ((rd_T35 l0 x8_1).f3) _ _ ((rd_T35 l0 x8_1).f4) t266 _ ?side1 ?side2 A12.out).mono ?_); (case side1 => exact Kd.C_below HR264_4.out (y19_ GE265.out)); (case side2 => exact HC264_4.out); rintro e w14 ⟨rfl, hb⟩; have n0_ := Aside0.mk (blk_below (g := gb265) (o := .cells #[.int .i64 ((rd_T35 l0 x8_1).f0), .int .i64 ((rd_T35 l0 x8_1).f1), .string ((rd_T35 l0 x8_1).f2), .string ((rd_T35 l0 x8_1).f3), .slice A264_4 ((rd_T35 l0 x8_1).f4).length c264_4] 35 (0, 0)) (by (with_reducible repeat (first | refine blk_drewN ?_ _ | refine blk_drew ?_ | refine blk_alloc ?_ _)); refine blk_put (cs := #[.int .i64 ((rd_T35 l0 x8_1).f0), .int .i64 ((rd_T35 l0 x8_1).f1), .string ((rd_T35 l0 x8_1).f2), .string ((rd_T35 l0 x8_1).f3), .slice none 0 0]) ?_ 4 _ rfl; (with_reducible repeat (first | refine blk_drewN ?_ _ | refine blk_drew ?_ | refine blk_alloc ?_ _)); refine blk_put (cs := #[.int .i64 ((rd_T35 l0 x8_1).f0), .int .i64 ((rd_T35 l0 x8_1).f1), .string ((rd_T35 l0 x8_1).f2), .string (⟨#[]⟩ : ByteArray), .slice none 0 0]) ?_ 3 _ rfl; (with_reducible repeat (first | refine blk_drewN ?_ _ | refine blk_drew ?_ | refine blk_alloc ?_ _)); refine blk_put (cs := #[.int .i64 ((rd_T35 l0 x8_1).f0), .int .i64 ((rd_T35 l0 x8_1).f1), .string (⟨#[]⟩ : ByteArray), .string (⟨#[]⟩ : ByteArray), .slice none 0 0]) ?_ 2 _ rfl; (with_reducible repeat (first | refine blk_drewN ?_ _ | refine blk_drew ?_ | refine blk_alloc ?_ _)); refine blk_put (cs := #[.int .i64 ((rd_T35 l0 x8_1).f0), .int .i64 0, .string (⟨#[]⟩ : ByteArray), .string (⟨#[]⟩ : ByteArray), .slice none 0 0]) ?_ 1 _ rfl; (with_reducible repeat (first | refine blk_drewN ?_ _ | refine blk_drew ?_ | refine blk_alloc ?_ _)); refine blk_put (cs := #[.int .i64 0, .int .i64 0, .string (⟨#[]⟩ : ByteArray), .string (⟨#[]⟩ : ByteArray), .slice none 0 0]) ?_ 0 _ rfl; (with_reducible repeat (first | refine blk_drewN ?_ _ | refine blk_drew ?_ | refine blk_alloc ?_ _)); exact BK265.out) hb); have n1_ := Aside0.mk (below_step (y19_ GE265.out) hb); clear BK265; clear HB; have BK265 := n0_; have HB := n1_; clear n0_ n1_; (try clear hb); (try clear hb2); (try clear hk); (try clear hi)))
       go_meet
       case rel => exact ⟨_, (!t266), y4_, H', ⟨by have := HK1.out; first | omega | exact Nat.le_refl _⟩, ⟨by (with_reducible repeat (first | refine blk_drewN ?_ _ | refine blk_drew ?_ | refine blk_alloc ?_ _)); exact BK265.out⟩, ⟨(y19_ GE265.out)⟩⟩
    case rest =>
     clear HC5
     try clear c1
     try clear c2
     try clear c2b0
     try clear p2
     try clear q2
     try clear hx2
     try clear c3
     try clear c3b0
     try clear c4
     try clear c4b0
     try clear c8
     try clear c8b0
     try clear c10
     try clear c10b0
     try clear hcz11_0
     try clear hcz11_1
     try clear hcz11_2
     try clear hcz11_3
     try clear hcz11_4
     try clear hcz13_0
     try clear hcz13_1
     try clear hcz13_2
     try clear hcz13_3
     try clear hcz13_4
     try clear hcz7_0
     try clear hcz7_1
     try clear hcz7_2
     try clear hcz7_3
     try clear hcz7_4
     try clear hcz9_0
     try clear hcz9_1
     try clear hcz9_2
     try clear hcz9_3
     try clear hcz9_4
     try clear hfz11_0
     try clear hfz11_1
     try clear hfz11_2
     try clear hfz11_3
     try clear hfz11_4
     try clear hfz13_0
     try clear hfz13_1
     try clear hfz13_2
     try clear hfz13_3
     try clear hfz13_4
     try clear hfz7_0
     try clear hfz7_1
     try clear hfz7_2
     try clear hfz7_3
     try clear hfz7_4
     try clear hfz9_0
     try clear hfz9_1
     try clear hfz9_2
     try clear hfz9_3
     try clear hfz9_4
     try clear hx264_0
     try clear hx264_1
     try clear hx264_2
     try clear hx264_3
     try clear hx264_4
     try clear p264
     try clear q264
     obtain ⟨kq, x25_4, rfl, HA, HJ4, BK265, HB⟩ := hcut
     cases kq with
     | zero => exact absurd HA.out (by simp [rows_right.j1])
     | succ kj4 =>
      have H := HA.out
      clear HA
      simp only [rows_right.j1] at H
      by_cases c15 : x25_4 = true
      ·subst c15
       rw [if_pos rfl] at H
       obtain rfl := Option.some.inj H
       go_wp2
       go_ret
       exact ⟨y12_, (y19_ GE265.out)⟩
      ·replace c15 := Bool.eq_false_iff.mpr c15
       subst c15
       rw [if_neg (show ¬ (false = true) by decide)] at H
       by_cases c16 : ((rd_T35 l0 x8_1).f1) = 0
       ·rw [if_pos c16] at H
        have c16b0 : (((rd_T35 l0 x8_1).f1) == 0) = true := beq_iff_eq.mpr c16
        have c16b1 : (((rd_T35 l0 x8_1).f1) != 0) = false := bne_eq_false_iff_eq.mpr c16
        clear c16
        have H' := Aside0.mk H
        clear H
        have hcz17_0 : wc.cell? ⟨gb265, 0, none⟩ = some (.int .i64 ((rd_T35 l0 x8_1).f0)) := (blk_cell BK265.out 0).trans rfl
        have hcz17_1 : wc.cell? ⟨gb265, 1, none⟩ = some (.int .i64 ((rd_T35 l0 x8_1).f1)) := (blk_cell BK265.out 1).trans rfl
        have hcz17_2 : wc.cell? ⟨gb265, 2, none⟩ = some (.string ((rd_T35 l0 x8_1).f2)) := (blk_cell BK265.out 2).trans rfl
        have hcz17_3 : wc.cell? ⟨gb265, 3, none⟩ = some (.string ((rd_T35 l0 x8_1).f3)) := (blk_cell BK265.out 3).trans rfl
        have hcz17_4 : wc.cell? ⟨gb265, 4, none⟩ = some (.slice A264_4 ((rd_T35 l0 x8_1).f4).length c264_4) := (blk_cell BK265.out 4).trans rfl
        have hfz17_0 := blk_frozen BK265.out 0
        have hfz17_1 := blk_frozen BK265.out 1
        have hfz17_2 := blk_frozen BK265.out 2
        have hfz17_3 := blk_frozen BK265.out 3
        have hfz17_4 := blk_frozen BK265.out 4
        go_wp2
        go_roundg kj4
        case measure => have := HK1.out; have := HJ4.out; omega
        case rel => exact ⟨(wrap64 (((rd_T35 l0 x8_1).f0) + 1)), (wrap64 (x8_1 + 1)), y4_, y4_, H', ⟨by have := HK1.out; have := HJ4.out; omega⟩, ⟨(y19_ GE265.out)⟩⟩
       ·rw [if_neg c16] at H
        have c16b0 : (((rd_T35 l0 x8_1).f1) == 0) = false := beq_eq_false_iff_ne.mpr c16
        have c16b1 : (((rd_T35 l0 x8_1).f1) != 0) = true := bne_iff_ne.mpr c16
        have H' := Aside0.mk H
        clear H
        have hcz18_0 : wc.cell? ⟨gb265, 0, none⟩ = some (.int .i64 ((rd_T35 l0 x8_1).f0)) := (blk_cell BK265.out 0).trans rfl
        have hcz18_1 : wc.cell? ⟨gb265, 1, none⟩ = some (.int .i64 ((rd_T35 l0 x8_1).f1)) := (blk_cell BK265.out 1).trans rfl
        have hcz18_2 : wc.cell? ⟨gb265, 2, none⟩ = some (.string ((rd_T35 l0 x8_1).f2)) := (blk_cell BK265.out 2).trans rfl
        have hcz18_3 : wc.cell? ⟨gb265, 3, none⟩ = some (.string ((rd_T35 l0 x8_1).f3)) := (blk_cell BK265.out 3).trans rfl
        have hcz18_4 : wc.cell? ⟨gb265, 4, none⟩ = some (.slice A264_4 ((rd_T35 l0 x8_1).f4).length c264_4) := (blk_cell BK265.out 4).trans rfl
        have hfz18_0 := blk_frozen BK265.out 0
        have hfz18_1 := blk_frozen BK265.out 1
        have hfz18_2 := blk_frozen BK265.out 2
        have hfz18_3 := blk_frozen BK265.out 3
        have hfz18_4 := blk_frozen BK265.out 4
        go_wp2
        go_roundg kj4
        case measure => have := HK1.out; have := HJ4.out; omega
        case rel => exact ⟨(((rd_T35 l0 x8_1).f0)), (wrap64 (x8_1 + 1)), y4_, y4_, H', ⟨by have := HK1.out; have := HJ4.out; omega⟩, ⟨(y19_ GE265.out)⟩⟩
   ·rw [if_neg c2] at H
    have c2b0 : decide (x8_1 < (l0.length : Int)) = false := decide_eq_false c2
    clear c2
    obtain rfl := Option.some.inj H
    go_wp2
    go_ret
    exact ⟨y12_, y13_⟩
end Go.Proofs.YtpnhjipaeggcpaaDoor.X
end
section
namespace Go.Proofs.YtpnhjipaeggcpaaDoor.X
open Go.RowKit Go.Proofs.YtpnhjipaeggcpaaDoorW.PrintWords Go.Proofs.YtpnhjipaeggcpaaDoorW.PrintLast Go.Proofs.YtpnhjipaeggcpaaDoorW.PrintMore
def deep (x : S35) : Bool := decide (60 ≤ x.f0)
def rows_big.f (l0 : List S35) : Option Bool := some (decide (4096 < l0.length) || l0.any deep)
set_option maxHeartbeats 1000000 in
theorem rows_big1 (d k : Int) (n t : ByteArray) (A : Option Addr) (m c : Nat) (w : World) :
    Calls Tryd.prog 65 #[.agg #[.int .i64 d, .int .i64 k, .string n, .string t, .slice A m c]] w fun e w' => e = .returned (.bool (decide (60 ≤ d))) ∧ Below w.heap.size w w' := by
  have hu := Tryd.underlying35
  go_enter Tryd.func65, Tryd.ntmps65
  go_wp2
  go_ret
  exact ⟨rfl, (Below.refl _ _).alloc (Nat.le_refl _) _⟩
def atDeep (l : List S35) : Int := if l.any deep then (l.findIdx deep : Int) else -1
theorem take_any {l : List S35} {k : Nat} (h : ∀ j, j < k → ∀ x, l[j]? = some x → deep x = false) (hk : k < l.length) (hd : deep l[k] = true) : atDeep l = k := by
  have h1 : l.any deep = true := List.any_eq_true.2 ⟨l[k], List.getElem_mem hk, hd⟩
  have h2 : l.findIdx deep = k := (List.findIdx_eq hk).2 ⟨hd, fun j hj => h j hj _ (List.getElem?_eq_getElem (by omega))⟩
  simp [atDeep, h1, h2]
theorem none_any {l : List S35} (h : ∀ j, j < l.length → ∀ x, l[j]? = some x → deep x = false) : l.any deep = false := by
  rw [List.any_eq_false]
  intro x hx
  obtain ⟨j, hj, rfl⟩ := List.getElem_of_mem hx
  simp [h j hj _ (List.getElem?_eq_getElem hj)]
set_option maxHeartbeats 2000000 in
set_option maxRecDepth 100000 in
theorem rows_bigIdx (A : Option Addr) (c : Nat) (l : List S35) (w : World) (hr : Kd.C k35 w A l.length l) :
    Calls Tryd.prog 83 #[.slice A l.length c, .func (.func 65) #[] #[]] w fun e w' => e = .returned (.int .i64 (atDeep l)) ∧ Below w.heap.size w w' := by
  have hu := Tryd.underlying35
  have hmax : l.length ≤ 9223372036854775807 := hr.2.1
  have HR := Aside0.mk hr
  clear hr
  go_enter Tryd.func83, Tryd.ntmps83
  go_wp2
  go_loopw [5, 8] (fun _ i wr => ∃ k : Nat, k ≤ l.length ∧ i = .int .i64 k ∧ Aside0 (∀ j, j < k → ∀ x, l[j]? = some x → deep x = false) ∧ Aside0 (Below w.heap.size w wr)) (fun _ i _ => l.length - (intOf i).toNat)
  case atStart => exact ⟨0, Nat.zero_le _, rfl, ⟨fun j hj => absurd hj (Nat.not_lt_zero _)⟩, ⟨Below.refl _ _⟩⟩
  case round =>
    obtain ⟨k, hk, rfl, HN, HB⟩ := hrel
    by_cases hlt : k < l.length
    · obtain ⟨x, hx, hxe⟩ := getD_at hlt
      have HX := Aside0.mk hx
      have HE := Aside0.mk hxe
      obtain ⟨ad, A4, c4, e, h0, h1, h2, h3, h4, _, _⟩ := row_at (Kd.C_below HR.out HB.out) hx
      clear hx hxe
      cases e
      have hz : (k : Int) < (l.length : Int) := by omega
      have hc := rows_big1 x.f0 x.f1 x.f2 x.f3 A4 x.f4.length c4 wr
      cases hd : decide (60 ≤ x.f0) with
      | true =>
        rw [hd] at hc
        have HD := Aside0.mk hd
        clear hd
        go_wp2_with (go_at_call 65; refine hc.mono ?_; rintro e w1 ⟨rfl, hb⟩)
        go_ret
        refine ⟨?_, below_step HB.out hb⟩
        rw [take_any HN.out hlt (by rw [HE.out]; exact HD.out)]
        rfl
      | false =>
        rw [hd] at hc
        have HD := Aside0.mk hd
        clear hd
        go_wp2_with (go_at_call 65; refine hc.mono ?_; rintro e w1 ⟨rfl, hb⟩)
        go_roundw
        case rel =>
          refine ⟨k + 1, by omega, by go_num, ⟨fun j hj y hx => ?_⟩, ⟨below_step HB.out hb⟩⟩
          by_cases e : j = k
          · subst e
            rw [HX.out] at hx
            cases hx
            exact HD.out
          · exact HN.out j (by omega) y hx
        case measure => simp [intOf]; omega
    · have hz : ¬ (k : Int) < (l.length : Int) := by omega
      obtain rfl : k = l.length := by omega
      go_wp2
      go_ret
      refine ⟨?_, HB.out⟩
      simp [atDeep, none_any HN.out]
set_option maxHeartbeats 1000000 in
theorem rows_bigHas (A : Option Addr) (c : Nat) (l : List S35) (w : World) (hr : Kd.C k35 w A l.length l) :
    Calls Tryd.prog 64 #[.slice A l.length c, .func (.func 65) #[] #[]] w fun e w' => e = .returned (.bool (l.any deep)) ∧ Below w.heap.size w w' := by
  have e1 : l.any deep = decide (atDeep l ≥ 0) := by
    unfold atDeep
    cases l.any deep <;> simp
  rw [e1]
  have hc := rows_bigIdx A c l w hr
  generalize atDeep l = n at hc
  go_enter Tryd.func64, Tryd.ntmps64
  go_wp2_with (go_at_call 83; refine hc.mono ?_; rintro e w1 ⟨rfl, hb⟩)
  go_ret
  exact ⟨rfl, hb⟩
set_option maxHeartbeats 1000000 in
theorem rows_big.calls (A0 : Option Addr) (c0 : Nat) (l0 : List S35) (r : Bool) (w : World) (hr0 : Kd.C k35 w A0 l0.length l0) (hc0 : l0.length ≤ c0) (h : rows_big.f l0 = some r) :
    Calls Tryd.prog 43 #[.slice A0 l0.length c0] w fun e w' => e = .returned (.bool r) ∧ Below w.heap.size w w' := by
  cases h
  have hc := rows_bigHas A0 c0 l0 w hr0
  clear hr0
  by_cases h4 : (4096 : Int) < (l0.length : Int)
  · have e1 : decide (4096 < l0.length) = true := decide_eq_true (by omega)
    have e2 : decide ((4096 : Int) < (l0.length : Int)) = true := decide_eq_true h4
    rw [e1, Bool.true_or]
    clear e1
    go_enter Tryd.func43, Tryd.ntmps43
    go_wp2
    go_ret
    exact ⟨rfl, Below.refl _ _⟩
  · have e1 : decide (4096 < l0.length) = false := decide_eq_false (by omega)
    have e2 : decide ((4096 : Int) < (l0.length : Int)) = false := decide_eq_false h4
    rw [e1, Bool.false_or]
    clear e1
    generalize l0.any deep = b at hc
    go_enter Tryd.func43, Tryd.ntmps43
    go_wp2_with (go_at_call 64; refine hc.mono ?_; rintro e w1 ⟨rfl, hb⟩)
    go_ret
    exact ⟨rfl, hb⟩
end Go.Proofs.YtpnhjipaeggcpaaDoor.X
end
section
namespace Go.Proofs.YtpnhjipaeggcpaaDoor.X
open Go.RowKit Go.Proofs.YtpnhjipaeggcpaaDoorW.PrintWords Go.Proofs.YtpnhjipaeggcpaaDoorW.PrintLast Go.Proofs.YtpnhjipaeggcpaaDoorW.PrintMore
attribute [local go_sem] max2_int min2_int max_two min_two max_three min_three max_four min_four
def rows_Check.f (k : Nat) (l0 : List (S35)) : Option (Int) := (rows_big.f l0).bind fun t267 => (if t267 = true then (some 2) else ((rows_right.f k l0).bind fun t268 => (if t268 = true then (some 0) else (some 40))))
set_option maxHeartbeats 8000000 in
set_option maxRecDepth 100000 in
theorem rows_Check.calls (k : Nat) (A0 : Option Addr) (c0 : Nat) (l0 : List (S35)) (r : Int) (w : World) (hr0 : Kd.C k35 w A0 l0.length l0) (hc0 : l0.length ≤ c0) (h : rows_Check.f k l0 = some r) :
  Calls Tryd.prog 27 #[.slice A0 l0.length c0] w fun e w' => e = .returned (.int .i64 r) ∧ Below w.heap.size w w' := by
 have HR0 := Aside0.mk hr0
 have HC0 := Aside0.mk hc0
 clear hr0 hc0
 have HB := Aside0.mk (Below.refl w.heap.size w)
 have H : ((rows_big.f l0).bind fun t267 => (if t267 = true then (some 2) else ((rows_right.f k l0).bind fun t268 => (if t268 = true then (some 0) else (some 40))))) = some r := h
 clear h
 replace H := Option.bind_eq_some_iff.mp H
 obtain ⟨t267, A20, H⟩ := H
 have A2 := Aside0.mk A20
 clear A20
 by_cases c3 : t267 = true
 ·subst c3
  rw [if_pos rfl] at H
  obtain rfl := Option.some.inj H
  go_enter Tryd.func27, Tryd.ntmps27
  go_wp2_with (first | ((with_reducible refine gate_callee (f := 43) rfl ?_); refine goesL_ (some 5) rfl rfl Tryd.func43 (by kernel_rfl) rfl #[.slice A0 l0.length c0] rfl y14_ ?_; (with_reducible refine (rows_big.calls _ _ l0 true _ ?side1 ?side2 A2.out).mono ?_); (case side1 => repeat (first | exact HR0.out | (with_reducible refine Kd.C_alloc ?_ _) | (with_reducible refine Kd.C_drewN ?_ _) | (with_reducible refine Kd.C_drew ?_))); (case side2 => exact HC0.out); rintro e w4 ⟨rfl, hb⟩; refine ⟨_, rfl, ?_⟩; have n0_ := Aside0.mk (below_step y13_ hb); clear HB; have HB := n0_; clear n0_; (try clear hb); (try clear hb2); (try clear hk); (try clear hi)))
  go_ret
  exact ⟨y12_, y13_⟩
 ·replace c3 := Bool.eq_false_iff.mpr c3
  subst c3
  rw [if_neg (show ¬ (false = true) by decide)] at H
  replace H := Option.bind_eq_some_iff.mp H
  obtain ⟨t268, A50, H⟩ := H
  have A5 := Aside0.mk A50
  clear A50
  by_cases c6 : t268 = true
  ·subst c6
   rw [if_pos rfl] at H
   obtain rfl := Option.some.inj H
   go_enter Tryd.func27, Tryd.ntmps27
   go_wp2_with (first | ((with_reducible refine gate_callee (f := 43) rfl ?_); refine goesL_ (some 5) rfl rfl Tryd.func43 (by kernel_rfl) rfl #[.slice A0 l0.length c0] rfl y14_ ?_; (with_reducible refine (rows_big.calls _ _ l0 false _ ?side1 ?side2 A2.out).mono ?_); (case side1 => repeat (first | exact HR0.out | (with_reducible refine Kd.C_alloc ?_ _) | (with_reducible refine Kd.C_drewN ?_ _) | (with_reducible refine Kd.C_drew ?_))); (case side2 => exact HC0.out); rintro e w7 ⟨rfl, hb⟩; refine ⟨_, rfl, ?_⟩; have n0_ := Aside0.mk (below_step y13_ hb); clear HB; have HB := n0_; clear n0_; (try clear hb); (try clear hb2); (try clear hk); (try clear hi)) | ((with_reducible refine gate_callee (f := 44) rfl ?_); refine goesL_ (some 8) rfl rfl Tryd.func44 (by kernel_rfl) rfl #[.slice A0 l0.length c0] rfl y14_ ?_; (with_reducible refine (rows_right.calls k _ _ l0 true _ ?side1 ?side2 A5.out).mono ?_); (case side1 => repeat (first | exact (Kd.C_below HR0.out HB.out) | (with_reducible refine Kd.C_alloc ?_ _) | (with_reducible refine Kd.C_drewN ?_ _) | (with_reducible refine Kd.C_drew ?_))); (case side2 => exact HC0.out); rintro e w8 ⟨rfl, hb⟩; refine ⟨_, rfl, ?_⟩; have n0_ := Aside0.mk (below_step y13_ hb); clear HB; have HB := n0_; clear n0_; (try clear hb); (try clear hb2); (try clear hk); (try clear hi)))
   go_ret
   exact ⟨y12_, y13_⟩
  ·replace c6 := Bool.eq_false_iff.mpr c6
   subst c6
   rw [if_neg (show ¬ (false = true) by decide)] at H
   obtain rfl := Option.some.inj H
   go_enter Tryd.func27, Tryd.ntmps27
   go_wp2_with (first | ((with_reducible refine gate_callee (f := 43) rfl ?_); refine goesL_ (some 5) rfl rfl Tryd.func43 (by kernel_rfl) rfl #[.slice A0 l0.length c0] rfl y14_ ?_; (with_reducible refine (rows_big.calls _ _ l0 false _ ?side1 ?side2 A2.out).mono ?_); (case side1 => repeat (first | exact HR0.out | (with_reducible refine Kd.C_alloc ?_ _) | (with_reducible refine Kd.C_drewN ?_ _) | (with_reducible refine Kd.C_drew ?_))); (case side2 => exact HC0.out); rintro e w9 ⟨rfl, hb⟩; refine ⟨_, rfl, ?_⟩; have n0_ := Aside0.mk (below_step y13_ hb); clear HB; have HB := n0_; clear n0_; (try clear hb); (try clear hb2); (try clear hk); (try clear hi)) | ((with_reducible refine gate_callee (f := 44) rfl ?_); refine goesL_ (some 8) rfl rfl Tryd.func44 (by kernel_rfl) rfl #[.slice A0 l0.length c0] rfl y14_ ?_; (with_reducible refine (rows_right.calls k _ _ l0 false _ ?side1 ?side2 A5.out).mono ?_); (case side1 => repeat (first | exact (Kd.C_below HR0.out HB.out) | (with_reducible refine Kd.C_alloc ?_ _) | (with_reducible refine Kd.C_drewN ?_ _) | (with_reducible refine Kd.C_drew ?_))); (case side2 => exact HC0.out); rintro e w10 ⟨rfl, hb⟩; refine ⟨_, rfl, ?_⟩; have n0_ := Aside0.mk (below_step y13_ hb); clear HB; have HB := n0_; clear n0_; (try clear hb); (try clear hb2); (try clear hk); (try clear hi)))
   go_ret
   exact ⟨y12_, y13_⟩
end Go.Proofs.YtpnhjipaeggcpaaDoor.X
end
section
namespace Go.Proofs.YtpnhjipaeggcpaaDoor.X
open Go.RowKit Go.Proofs.YtpnhjipaeggcpaaDoorW.PrintWords Go.Proofs.YtpnhjipaeggcpaaDoorW.PrintLast Go.Proofs.YtpnhjipaeggcpaaDoorW.PrintMore
attribute [local go_sem] max2_int min2_int max_two min_two max_three min_three max_four min_four
def fold_Space.f (a0 : Int) : Option (Bool) := if a0 = 32 then (some true) else (if a0 = 9 then (some true) else (if a0 = 10 then (some true) else (if a0 = 12 then (some true) else (some (a0 == 13)))))
set_option maxHeartbeats 8000000 in
set_option maxRecDepth 100000 in
theorem fold_Space.calls (a0 : Int) (r : Bool) (w : World) (h : fold_Space.f a0 = some r) :
  Calls Tryd.prog 90 #[.int .u8 a0] w fun e w' => e = .returned (.bool r) ∧ Drawn0 w w' := by
 have H : (if a0 = 32 then (some true) else (if a0 = 9 then (some true) else (if a0 = 10 then (some true) else (if a0 = 12 then (some true) else (some (a0 == 13)))))) = some r := h
 clear h
 by_cases c2 : a0 = 32
 ·rw [if_pos c2] at H
  have c2b0 : (a0 == 32) = true := beq_iff_eq.mpr c2
  have c2b1 : (a0 != 32) = false := bne_eq_false_iff_eq.mpr c2
  clear c2
  obtain rfl := Option.some.inj H
  go_enter Tryd.func90, Tryd.ntmps90
  go_wp2
  go_ret
  exact ⟨y4_, y3_⟩
 ·rw [if_neg c2] at H
  have c2b0 : (a0 == 32) = false := beq_eq_false_iff_ne.mpr c2
  have c2b1 : (a0 != 32) = true := bne_iff_ne.mpr c2
  by_cases c3 : a0 = 9
  ·rw [if_pos c3] at H
   have c3b0 : (a0 == 9) = true := beq_iff_eq.mpr c3
   have c3b1 : (a0 != 9) = false := bne_eq_false_iff_eq.mpr c3
   clear c3
   obtain rfl := Option.some.inj H
   go_enter Tryd.func90, Tryd.ntmps90
   go_wp2
   go_ret
   exact ⟨y4_, y3_⟩
  ·rw [if_neg c3] at H
   have c3b0 : (a0 == 9) = false := beq_eq_false_iff_ne.mpr c3
   have c3b1 : (a0 != 9) = true := bne_iff_ne.mpr c3
   by_cases c4 : a0 = 10
   ·rw [if_pos c4] at H
    have c4b0 : (a0 == 10) = true := beq_iff_eq.mpr c4
    have c4b1 : (a0 != 10) = false := bne_eq_false_iff_eq.mpr c4
    clear c4
    obtain rfl := Option.some.inj H
    go_enter Tryd.func90, Tryd.ntmps90
    go_wp2
    go_ret
    exact ⟨y4_, y3_⟩
   ·rw [if_neg c4] at H
    have c4b0 : (a0 == 10) = false := beq_eq_false_iff_ne.mpr c4
    have c4b1 : (a0 != 10) = true := bne_iff_ne.mpr c4
    by_cases c5 : a0 = 12
    ·rw [if_pos c5] at H
     have c5b0 : (a0 == 12) = true := beq_iff_eq.mpr c5
     have c5b1 : (a0 != 12) = false := bne_eq_false_iff_eq.mpr c5
     clear c5
     obtain rfl := Option.some.inj H
     go_enter Tryd.func90, Tryd.ntmps90
     go_wp2
     go_ret
     exact ⟨y4_, y3_⟩
    ·rw [if_neg c5] at H
     have c5b0 : (a0 == 12) = false := beq_eq_false_iff_ne.mpr c5
     have c5b1 : (a0 != 12) = true := bne_iff_ne.mpr c5
     obtain rfl := Option.some.inj H
     go_enter Tryd.func90, Tryd.ntmps90
     go_wp2
     go_ret
     exact ⟨y4_, y3_⟩
end Go.Proofs.YtpnhjipaeggcpaaDoor.X
end
section
namespace Go.Proofs.YtpnhjipaeggcpaaDoor.X
open Go.RowKit Go.Proofs.YtpnhjipaeggcpaaDoorW.PrintWords Go.Proofs.YtpnhjipaeggcpaaDoorW.PrintLast Go.Proofs.YtpnhjipaeggcpaaDoorW.PrintMore
attribute [local go_sem] max2_int min2_int max_two min_two max_three min_three max_four min_four
mutual
def names_plain.l0 : Nat → ByteArray → ByteArray → Int → Int → Option (Bool)
 | 0, _, _, _, _ => none
 | k + 1, x0, x1, x8, x9 => if x9 < x8 then (if 0 ≤ x9 then (if x9 < (x0.size : Int) then ((fold_Space.f (bt x0 x9)).bind fun t278 => (if t278 = true then (names_plain.j1 k x0 x1 x9 x8 x9 true) else (if (bt x0 x9) ≥ 65 then (if (bt x0 x9) ≤ 90 then (names_plain.j1 k x0 x1 x9 x8 x9 true) else (names_plain.j1 k x0 x1 x9 x8 x9 ((bt x0 x9) == 0))) else (names_plain.j1 k x0 x1 x9 x8 x9 ((bt x0 x9) == 0))))) else (none)) else (none)) else (some (x0.toList != ([] : List UInt8)))
def names_plain.j1 : Nat → ByteArray → ByteArray → Int → Int → Int → Bool → Option (Bool)
 | 0, _, _, _, _, _, _ => none
 | k + 1, x0, x1, x5, x8, x9, x33 => if x33 = true then (some false) else (names_plain.l1 k x0 x1 x5 x8 x9 (x1.size : Int) 0)
def names_plain.l1 : Nat → ByteArray → ByteArray → Int → Int → Int → Int → Int → Option (Bool)
 | 0, _, _, _, _, _, _, _ => none
 | k + 1, x0, x1, x5, x8, x9, x35, x36 => if x36 < x35 then (if 0 ≤ x5 then (if x5 < (x0.size : Int) then (if 0 ≤ x36 then (if x36 < (x1.size : Int) then (if (bt x0 x5) = (bt x1 x36) then (some false) else (names_plain.l1 k x0 x1 x5 x8 x9 x35 (wrap64 (x36 + 1)))) else (none)) else (none)) else (none)) else (none)) else (names_plain.l0 k x0 x1 x8 (wrap64 (x9 + 1)))
end
def names_plain.f (k : Nat) (a0 : ByteArray) (a1 : ByteArray) : Option (Bool) := names_plain.l0 k a0 a1 (a0.size : Int) 0
set_option maxHeartbeats 8000000 in
set_option maxRecDepth 100000 in
theorem names_plain.calls (k : Nat) (a0 : ByteArray) (a1 : ByteArray) (r : Bool) (w : World) (h : names_plain.f k a0 a1 = some r) :
  Calls Tryd.prog 72 #[.string a0, .string a1] w fun e w' => e = .returned (.bool r) ∧ Drawn0 w w' := by
 have H : (names_plain.l0 k a0 a1 (a0.size : Int) 0) = some r := h
 clear h
 have H' := Aside0.mk H
 clear H
 go_enter Tryd.func72, Tryd.ntmps72
 go_wp2
 repeat (go_quiet (fail); try go_wp2)
 go_loopg [9] k (fun kq v9 w' => ∃ (x9_1 : Int), v9 = .int .i64 x9_1 ∧ Aside0 (names_plain.l0 kq a0 a1 (a0.size : Int) x9_1 = some r) ∧ Aside0 (kq ≤ k) ∧ Drawn0 w w')
 case atStart => exact ⟨(0), y4_, H', ⟨Nat.le_refl _⟩, y3_⟩
 case round =>
  clear H'
  try clear p2
  obtain ⟨x9_1, rfl, HA, HK1, ⟨m1, rfl⟩⟩ := hrel
  cases gk with
  | zero => exact absurd HA.out (by simp [names_plain.l0])
  | succ k1 =>
   have H := HA.out
   clear HA
   simp only [names_plain.l0] at H
   by_cases c3 : x9_1 < (a0.size : Int)
   ·rw [if_pos c3] at H
    have c3b0 : decide (x9_1 < (a0.size : Int)) = true := decide_eq_true c3
    clear c3
    have HC4 := Aside0.mk H
    clear H
    go_upto_region 4 with (fail)
    repeat (go_quiet (fail); go_upto_region 4 with (fail))
    go_cut [33] (fun v33 wc => ∃ (kq : Nat) (x33_3 : Bool), v33 = .bool x33_3 ∧ Aside0 (names_plain.j1 kq a0 a1 x9_1 (a0.size : Int) x9_1 x33_3 = some r) ∧ Aside0 (kq ≤ k1) ∧ Drawn0 w wc)
    case first =>
     have H := HC4.out
     clear HC4
     by_cases c5 : 0 ≤ x9_1
     rotate_left
     ·rw [if_neg c5] at H
      exact absurd H (by simp)
     rw [if_pos c5] at H
     have c5b0 : decide (0 ≤ x9_1) = true := decide_eq_true c5
     clear c5
     (first | rw [c5b0] | (simp only [i64_w, i32_w]; rw [c5b0]) | skip)
     by_cases c6 : x9_1 < (a0.size : Int)
     rotate_left
     ·rw [if_neg c6] at H
      exact absurd H (by simp)
     rw [if_pos c6] at H
     have c6b0 : decide (x9_1 < (a0.size : Int)) = true := decide_eq_true c6
     clear c6
     replace H := Option.bind_eq_some_iff.mp H
     obtain ⟨t278, A80, H⟩ := H
     have A8 := Aside0.mk A80
     clear A80
     by_cases c9 : t278 = true
     ·subst c9
      rw [if_pos rfl] at H
      have H' := Aside0.mk H
      clear H
      have p7 : 0 ≤ (x9_1 : Int) := of_decide_eq_true y2_
      have q7 : x9_1 < (a0.size : Int) := of_decide_eq_true y2_
      have hx7 := bt_at a0 x9_1
      replace p7 := eq_true p7
      replace q7 := eq_true q7
      go_wp2_with (first | (go_at_call 90; (with_reducible refine (fold_Space.calls (bt a0 x9_1) true _ A8.out).mono ?_); rintro e w' ⟨rfl, ⟨nd, rfl⟩⟩; (try first | exact ⟨rfl, _, World.drewN_drewN _ _ _⟩ | exact ⟨rfl, _, Eq.trans (World.drewN_drewN _ _ _) (congrArg (World.drewN _) (Nat.add_assoc _ _ _))⟩)))
      repeat (go_quiet (first | (go_at_call 90; (with_reducible refine (fold_Space.calls (bt a0 x9_1) true _ A8.out).mono ?_); rintro e w' ⟨rfl, ⟨nd, rfl⟩⟩; (try first | exact ⟨rfl, _, World.drewN_drewN _ _ _⟩ | exact ⟨rfl, _, Eq.trans (World.drewN_drewN _ _ _) (congrArg (World.drewN _) (Nat.add_assoc _ _ _))⟩))); try go_wp2_with (first | (go_at_call 90; (with_reducible refine (fold_Space.calls (bt a0 x9_1) true _ A8.out).mono ?_); rintro e w' ⟨rfl, ⟨nd, rfl⟩⟩; (try first | exact ⟨rfl, _, World.drewN_drewN _ _ _⟩ | exact ⟨rfl, _, Eq.trans (World.drewN_drewN _ _ _) (congrArg (World.drewN _) (Nat.add_assoc _ _ _))⟩))))
      go_meet
      case rel => exact ⟨_, (true), y4_, H', ⟨by have := HK1.out; first | omega | exact Nat.le_refl _⟩, y3_⟩
     ·replace c9 := Bool.eq_false_iff.mpr c9
      subst c9
      rw [if_neg (show ¬ (false = true) by decide)] at H
      by_cases c11 : (bt a0 x9_1) ≥ 65
      ·rw [if_pos c11] at H
       have c11b0 : decide (65 ≤ (bt a0 x9_1)) = true := decide_eq_true c11
       clear c11
       by_cases c13 : (bt a0 x9_1) ≤ 90
       ·rw [if_pos c13] at H
        have c13b0 : decide ((bt a0 x9_1) ≤ 90) = true := decide_eq_true c13
        clear c13
        have H' := Aside0.mk H
        clear H
        have p7 : 0 ≤ (x9_1 : Int) := of_decide_eq_true y2_
        have q7 : x9_1 < (a0.size : Int) := of_decide_eq_true y2_
        have hx7 := bt_at a0 x9_1
        replace p7 := eq_true p7
        replace q7 := eq_true q7
        go_wp2_with (first | (go_at_call 90; (with_reducible refine (fold_Space.calls (bt a0 x9_1) false _ A8.out).mono ?_); rintro e w' ⟨rfl, ⟨nd, rfl⟩⟩; (try first | exact ⟨rfl, _, World.drewN_drewN _ _ _⟩ | exact ⟨rfl, _, Eq.trans (World.drewN_drewN _ _ _) (congrArg (World.drewN _) (Nat.add_assoc _ _ _))⟩); have p10 : 0 ≤ (x9_1 : Int) := of_decide_eq_true y2_; have q10 : x9_1 < (a0.size : Int) := of_decide_eq_true y2_; have hx10 := bt_at a0 x9_1; replace p10 := eq_true p10; replace q10 := eq_true q10; have p12 : 0 ≤ (x9_1 : Int) := of_decide_eq_true y2_; have q12 : x9_1 < (a0.size : Int) := of_decide_eq_true y2_; have hx12 := bt_at a0 x9_1; replace p12 := eq_true p12; replace q12 := eq_true q12))
        repeat (go_quiet (first | (go_at_call 90; (with_reducible refine (fold_Space.calls (bt a0 x9_1) false _ A8.out).mono ?_); rintro e w' ⟨rfl, ⟨nd, rfl⟩⟩; (try first | exact ⟨rfl, _, World.drewN_drewN _ _ _⟩ | exact ⟨rfl, _, Eq.trans (World.drewN_drewN _ _ _) (congrArg (World.drewN _) (Nat.add_assoc _ _ _))⟩); have p10 : 0 ≤ (x9_1 : Int) := of_decide_eq_true y2_; have q10 : x9_1 < (a0.size : Int) := of_decide_eq_true y2_; have hx10 := bt_at a0 x9_1; replace p10 := eq_true p10; replace q10 := eq_true q10; have p12 : 0 ≤ (x9_1 : Int) := of_decide_eq_true y2_; have q12 : x9_1 < (a0.size : Int) := of_decide_eq_true y2_; have hx12 := bt_at a0 x9_1; replace p12 := eq_true p12; replace q12 := eq_true q12)); try go_wp2_with (first | (go_at_call 90; (with_reducible refine (fold_Space.calls (bt a0 x9_1) false _ A8.out).mono ?_); rintro e w' ⟨rfl, ⟨nd, rfl⟩⟩; (try first | exact ⟨rfl, _, World.drewN_drewN _ _ _⟩ | exact ⟨rfl, _, Eq.trans (World.drewN_drewN _ _ _) (congrArg (World.drewN _) (Nat.add_assoc _ _ _))⟩); have p10 : 0 ≤ (x9_1 : Int) := of_decide_eq_true y2_; have q10 : x9_1 < (a0.size : Int) := of_decide_eq_true y2_; have hx10 := bt_at a0 x9_1; replace p10 := eq_true p10; replace q10 := eq_true q10; have p12 : 0 ≤ (x9_1 : Int) := of_decide_eq_true y2_; have q12 : x9_1 < (a0.size : Int) := of_decide_eq_true y2_; have hx12 := bt_at a0 x9_1; replace p12 := eq_true p12; replace q12 := eq_true q12)))
        go_meet
        case rel => exact ⟨_, (true), y4_, H', ⟨by have := HK1.out; first | omega | exact Nat.le_refl _⟩, y3_⟩
       ·rw [if_neg c13] at H
        have c13b0 : decide ((bt a0 x9_1) ≤ 90) = false := decide_eq_false c13
        clear c13
        have H' := Aside0.mk H
        clear H
        have p7 : 0 ≤ (x9_1 : Int) := of_decide_eq_true y2_
        have q7 : x9_1 < (a0.size : Int) := of_decide_eq_true y2_
        have hx7 := bt_at a0 x9_1
        replace p7 := eq_true p7
        replace q7 := eq_true q7
        go_wp2_with (first | (go_at_call 90; (with_reducible refine (fold_Space.calls (bt a0 x9_1) false _ A8.out).mono ?_); rintro e w' ⟨rfl, ⟨nd, rfl⟩⟩; (try first | exact ⟨rfl, _, World.drewN_drewN _ _ _⟩ | exact ⟨rfl, _, Eq.trans (World.drewN_drewN _ _ _) (congrArg (World.drewN _) (Nat.add_assoc _ _ _))⟩); have p10 : 0 ≤ (x9_1 : Int) := of_decide_eq_true y2_; have q10 : x9_1 < (a0.size : Int) := of_decide_eq_true y2_; have hx10 := bt_at a0 x9_1; replace p10 := eq_true p10; replace q10 := eq_true q10; have p12 : 0 ≤ (x9_1 : Int) := of_decide_eq_true y2_; have q12 : x9_1 < (a0.size : Int) := of_decide_eq_true y2_; have hx12 := bt_at a0 x9_1; replace p12 := eq_true p12; replace q12 := eq_true q12; have p14 : 0 ≤ (x9_1 : Int) := of_decide_eq_true y2_; have q14 : x9_1 < (a0.size : Int) := of_decide_eq_true y2_; have hx14 := bt_at a0 x9_1; replace p14 := eq_true p14; replace q14 := eq_true q14))
        repeat (go_quiet (first | (go_at_call 90; (with_reducible refine (fold_Space.calls (bt a0 x9_1) false _ A8.out).mono ?_); rintro e w' ⟨rfl, ⟨nd, rfl⟩⟩; (try first | exact ⟨rfl, _, World.drewN_drewN _ _ _⟩ | exact ⟨rfl, _, Eq.trans (World.drewN_drewN _ _ _) (congrArg (World.drewN _) (Nat.add_assoc _ _ _))⟩); have p10 : 0 ≤ (x9_1 : Int) := of_decide_eq_true y2_; have q10 : x9_1 < (a0.size : Int) := of_decide_eq_true y2_; have hx10 := bt_at a0 x9_1; replace p10 := eq_true p10; replace q10 := eq_true q10; have p12 : 0 ≤ (x9_1 : Int) := of_decide_eq_true y2_; have q12 : x9_1 < (a0.size : Int) := of_decide_eq_true y2_; have hx12 := bt_at a0 x9_1; replace p12 := eq_true p12; replace q12 := eq_true q12; have p14 : 0 ≤ (x9_1 : Int) := of_decide_eq_true y2_; have q14 : x9_1 < (a0.size : Int) := of_decide_eq_true y2_; have hx14 := bt_at a0 x9_1; replace p14 := eq_true p14; replace q14 := eq_true q14)); try go_wp2_with (first | (go_at_call 90; (with_reducible refine (fold_Space.calls (bt a0 x9_1) false _ A8.out).mono ?_); rintro e w' ⟨rfl, ⟨nd, rfl⟩⟩; (try first | exact ⟨rfl, _, World.drewN_drewN _ _ _⟩ | exact ⟨rfl, _, Eq.trans (World.drewN_drewN _ _ _) (congrArg (World.drewN _) (Nat.add_assoc _ _ _))⟩); have p10 : 0 ≤ (x9_1 : Int) := of_decide_eq_true y2_; have q10 : x9_1 < (a0.size : Int) := of_decide_eq_true y2_; have hx10 := bt_at a0 x9_1; replace p10 := eq_true p10; replace q10 := eq_true q10; have p12 : 0 ≤ (x9_1 : Int) := of_decide_eq_true y2_; have q12 : x9_1 < (a0.size : Int) := of_decide_eq_true y2_; have hx12 := bt_at a0 x9_1; replace p12 := eq_true p12; replace q12 := eq_true q12; have p14 : 0 ≤ (x9_1 : Int) := of_decide_eq_true y2_; have q14 : x9_1 < (a0.size : Int) := of_decide_eq_true y2_; have hx14 := bt_at a0 x9_1; replace p14 := eq_true p14; replace q14 := eq_true q14)))
        go_meet
        case rel => exact ⟨_, (((bt a0 x9_1) == 0)), y4_, H', ⟨by have := HK1.out; first | omega | exact Nat.le_refl _⟩, y3_⟩
      ·rw [if_neg c11] at H
       have c11b0 : decide (65 ≤ (bt a0 x9_1)) = false := decide_eq_false c11
       clear c11
       have H' := Aside0.mk H
       clear H
       have p7 : 0 ≤ (x9_1 : Int) := of_decide_eq_true y2_
       have q7 : x9_1 < (a0.size : Int) := of_decide_eq_true y2_
       have hx7 := bt_at a0 x9_1
       replace p7 := eq_true p7
       replace q7 := eq_true q7
       go_wp2_with (first | (go_at_call 90; (with_reducible refine (fold_Space.calls (bt a0 x9_1) false _ A8.out).mono ?_); rintro e w' ⟨rfl, ⟨nd, rfl⟩⟩; (try first | exact ⟨rfl, _, World.drewN_drewN _ _ _⟩ | exact ⟨rfl, _, Eq.trans (World.drewN_drewN _ _ _) (congrArg (World.drewN _) (Nat.add_assoc _ _ _))⟩); have p10 : 0 ≤ (x9_1 : Int) := of_decide_eq_true y2_; have q10 : x9_1 < (a0.size : Int) := of_decide_eq_true y2_; have hx10 := bt_at a0 x9_1; replace p10 := eq_true p10; replace q10 := eq_true q10; have p15 : 0 ≤ (x9_1 : Int) := of_decide_eq_true y2_; have q15 : x9_1 < (a0.size : Int) := of_decide_eq_true y2_; have hx15 := bt_at a0 x9_1; replace p15 := eq_true p15; replace q15 := eq_true q15))
       repeat (go_quiet (first | (go_at_call 90; (with_reducible refine (fold_Space.calls (bt a0 x9_1) false _ A8.out).mono ?_); rintro e w' ⟨rfl, ⟨nd, rfl⟩⟩; (try first | exact ⟨rfl, _, World.drewN_drewN _ _ _⟩ | exact ⟨rfl, _, Eq.trans (World.drewN_drewN _ _ _) (congrArg (World.drewN _) (Nat.add_assoc _ _ _))⟩); have p10 : 0 ≤ (x9_1 : Int) := of_decide_eq_true y2_; have q10 : x9_1 < (a0.size : Int) := of_decide_eq_true y2_; have hx10 := bt_at a0 x9_1; replace p10 := eq_true p10; replace q10 := eq_true q10; have p15 : 0 ≤ (x9_1 : Int) := of_decide_eq_true y2_; have q15 : x9_1 < (a0.size : Int) := of_decide_eq_true y2_; have hx15 := bt_at a0 x9_1; replace p15 := eq_true p15; replace q15 := eq_true q15)); try go_wp2_with (first | (go_at_call 90; (with_reducible refine (fold_Space.calls (bt a0 x9_1) false _ A8.out).mono ?_); rintro e w' ⟨rfl, ⟨nd, rfl⟩⟩; (try first | exact ⟨rfl, _, World.drewN_drewN _ _ _⟩ | exact ⟨rfl, _, Eq.trans (World.drewN_drewN _ _ _) (congrArg (World.drewN _) (Nat.add_assoc _ _ _))⟩); have p10 : 0 ≤ (x9_1 : Int) := of_decide_eq_true y2_; have q10 : x9_1 < (a0.size : Int) := of_decide_eq_true y2_; have hx10 := bt_at a0 x9_1; replace p10 := eq_true p10; replace q10 := eq_true q10; have p15 : 0 ≤ (x9_1 : Int) := of_decide_eq_true y2_; have q15 : x9_1 < (a0.size : Int) := of_decide_eq_true y2_; have hx15 := bt_at a0 x9_1; replace p15 := eq_true p15; replace q15 := eq_true q15)))
       go_meet
       case rel => exact ⟨_, (((bt a0 x9_1) == 0)), y4_, H', ⟨by have := HK1.out; first | omega | exact Nat.le_refl _⟩, y3_⟩
    case rest =>
     clear HC4
     try clear c1
     try clear p1
     try clear q1
     try clear hx1
     try clear p2
     try clear c3
     try clear c3b0
     try clear c5
     try clear c5b0
     try clear c6
     try clear c6b0
     try clear c7
     try clear p7
     try clear q7
     try clear hx7
     try clear c9
     try clear p10
     try clear q10
     try clear hx10
     try clear c11
     try clear c11b0
     try clear p12
     try clear q12
     try clear hx12
     try clear c13
     try clear c13b0
     try clear p14
     try clear q14
     try clear hx14
     try clear p15
     try clear q15
     try clear hx15
     try clear p10
     try clear p12
     try clear p14
     try clear p15
     try clear p2
     try clear p7
     try clear q10
     try clear q12
     try clear q14
     try clear q15
     try clear q7
     obtain ⟨kq, x33_3, rfl, HA, HJ3, ⟨mc3, rfl⟩⟩ := hcut
     cases kq with
     | zero => exact absurd HA.out (by simp [names_plain.j1])
     | succ kj3 =>
      have H := HA.out
      clear HA
      simp only [names_plain.j1] at H
      by_cases c16 : x33_3 = true
      ·subst c16
       rw [if_pos rfl] at H
       obtain rfl := Option.some.inj H
       go_wp2
       repeat (go_quiet (fail); try go_wp2)
       go_ret
       exact ⟨y4_, y3_⟩
      ·replace c16 := Bool.eq_false_iff.mpr c16
       subst c16
       rw [if_neg (show ¬ (false = true) by decide)] at H
       have H' := Aside0.mk H
       clear H
       go_wp2
       repeat (go_quiet (fail); try go_wp2)
       go_loopg [36] kj3 (fun kq v36 w' => ∃ (x36_3 : Int), v36 = .int .i64 x36_3 ∧ Aside0 (names_plain.l1 kq a0 a1 x9_1 (a0.size : Int) x9_1 (a1.size : Int) x36_3 = some r) ∧ Aside0 (kq ≤ kj3) ∧ Drawn0 w w')
       case atStart => exact ⟨(0), y4_, H', ⟨Nat.le_refl _⟩, y3_⟩
       case round =>
        clear H'
        try clear c1
        try clear p1
        try clear q1
        try clear hx1
        try clear p2
        try clear c3
        try clear c3b0
        try clear c5
        try clear c5b0
        try clear c6
        try clear c6b0
        try clear c7
        try clear p7
        try clear q7
        try clear hx7
        try clear c9
        try clear p10
        try clear q10
        try clear hx10
        try clear c11
        try clear c11b0
        try clear p12
        try clear q12
        try clear hx12
        try clear c13
        try clear c13b0
        try clear p14
        try clear q14
        try clear hx14
        try clear p15
        try clear q15
        try clear hx15
        try clear c16
        try clear p1
        try clear p10
        try clear p12
        try clear p14
        try clear p15
        try clear p2
        try clear p7
        try clear q1
        try clear q10
        try clear q12
        try clear q14
        try clear q15
        try clear q7
        obtain ⟨x36_3, rfl, HA, HK3, ⟨m3, rfl⟩⟩ := hrel
        cases gk with
        | zero => exact absurd HA.out (by simp [names_plain.l1])
        | succ k3 =>
         have H := HA.out
         clear HA
         simp only [names_plain.l1] at H
         by_cases c17 : x36_3 < (a1.size : Int)
         ·rw [if_pos c17] at H
          have c17b0 : decide (x36_3 < (a1.size : Int)) = true := decide_eq_true c17
          clear c17
          by_cases c18 : 0 ≤ x9_1
          rotate_left
          ·rw [if_neg c18] at H
           exact absurd H (by simp)
          rw [if_pos c18] at H
          have c18b0 : decide (0 ≤ x9_1) = true := decide_eq_true c18
          clear c18
          by_cases c19 : x9_1 < (a0.size : Int)
          rotate_left
          ·rw [if_neg c19] at H
           exact absurd H (by simp)
          rw [if_pos c19] at H
          have c19b0 : decide (x9_1 < (a0.size : Int)) = true := decide_eq_true c19
          clear c19
          by_cases c21 : 0 ≤ x36_3
          rotate_left
          ·rw [if_neg c21] at H
           exact absurd H (by simp)
          rw [if_pos c21] at H
          have c21b0 : decide (0 ≤ x36_3) = true := decide_eq_true c21
          clear c21
          by_cases c22 : x36_3 < (a1.size : Int)
          rotate_left
          ·rw [if_neg c22] at H
           exact absurd H (by simp)
          rw [if_pos c22] at H
          have c22b0 : decide (x36_3 < (a1.size : Int)) = true := decide_eq_true c22
          clear c22
          by_cases c24 : (bt a0 x9_1) = (bt a1 x36_3)
          ·rw [if_pos c24] at H
           have c24b0 : ((bt a0 x9_1) == (bt a1 x36_3)) = true := beq_iff_eq.mpr c24
           have c24b1 : ((bt a0 x9_1) != (bt a1 x36_3)) = false := bne_eq_false_iff_eq.mpr c24
           clear c24
           obtain rfl := Option.some.inj H
           have p20 : 0 ≤ (x9_1 : Int) := of_decide_eq_true y2_
           have q20 : x9_1 < (a0.size : Int) := of_decide_eq_true y2_
           have hx20 := bt_at a0 x9_1
           replace p20 := eq_true p20
           replace q20 := eq_true q20
           have p23 : 0 ≤ (x36_3 : Int) := of_decide_eq_true y2_
           have q23 : x36_3 < (a1.size : Int) := of_decide_eq_true y2_
           have hx23 := bt_at a1 x36_3
           replace p23 := eq_true p23
           replace q23 := eq_true q23
           go_wp2
           repeat (go_quiet (fail); try go_wp2)
           go_ret
           exact ⟨y4_, y3_⟩
          ·rw [if_neg c24] at H
           have c24b0 : ((bt a0 x9_1) == (bt a1 x36_3)) = false := beq_eq_false_iff_ne.mpr c24
           have c24b1 : ((bt a0 x9_1) != (bt a1 x36_3)) = true := bne_iff_ne.mpr c24
           have H' := Aside0.mk H
           clear H
           have p20 : 0 ≤ (x9_1 : Int) := of_decide_eq_true y2_
           have q20 : x9_1 < (a0.size : Int) := of_decide_eq_true y2_
           have hx20 := bt_at a0 x9_1
           replace p20 := eq_true p20
           replace q20 := eq_true q20
           have p23 : 0 ≤ (x36_3 : Int) := of_decide_eq_true y2_
           have q23 : x36_3 < (a1.size : Int) := of_decide_eq_true y2_
           have hx23 := bt_at a1 x36_3
           replace p23 := eq_true p23
           replace q23 := eq_true q23
           go_wp2
           repeat (go_quiet (fail); try go_wp2)
           go_roundg k3
           case measure => have := HK1.out; have := HJ3.out; have := HK3.out; omega
           case rel => exact ⟨(wrap64 (x36_3 + 1)), y4_, H', ⟨by have := HK1.out; have := HJ3.out; have := HK3.out; omega⟩, y3_⟩
         ·rw [if_neg c17] at H
          have c17b0 : decide (x36_3 < (a1.size : Int)) = false := decide_eq_false c17
          clear c17
          have H' := Aside0.mk H
          clear H
          go_wp2
          repeat (go_quiet (fail); try go_wp2)
          go_roundg k3
          case measure => have := HK1.out; have := HJ3.out; have := HK3.out; omega
          case rel => exact ⟨(wrap64 (x9_1 + 1)), y4_, H', ⟨by have := HK1.out; have := HJ3.out; have := HK3.out; omega⟩, y3_⟩
   ·rw [if_neg c3] at H
    have c3b0 : decide (x9_1 < (a0.size : Int)) = false := decide_eq_false c3
    clear c3
    obtain rfl := Option.some.inj H
    go_wp2
    repeat (go_quiet (fail); try go_wp2)
    go_ret
    exact ⟨y4_, y3_⟩
end Go.Proofs.YtpnhjipaeggcpaaDoor.X
end
section
namespace Go.Proofs.YtpnhjipaeggcpaaDoor.X
open Go.RowKit Go.Proofs.YtpnhjipaeggcpaaDoorW.PrintWords Go.Proofs.YtpnhjipaeggcpaaDoorW.PrintLast Go.Proofs.YtpnhjipaeggcpaaDoorW.PrintMore
attribute [local go_sem] max2_int min2_int max_two min_two max_three min_three max_four min_four
def fold_Letter.f (a0 : Int) : Option (Bool) := if a0 ≥ 97 then (if a0 ≤ 122 then (some true) else (if a0 ≥ 65 then (some (decide (a0 ≤ 90))) else (some false))) else (if a0 ≥ 65 then (some (decide (a0 ≤ 90))) else (some false))
set_option maxHeartbeats 8000000 in
set_option maxRecDepth 100000 in
theorem fold_Letter.calls (a0 : Int) (r : Bool) (w : World) (h : fold_Letter.f a0 = some r) :
  Calls Tryd.prog 73 #[.int .u8 a0] w fun e w' => e = .returned (.bool r) ∧ Drawn0 w w' := by
 have H : (if a0 ≥ 97 then (if a0 ≤ 122 then (some true) else (if a0 ≥ 65 then (some (decide (a0 ≤ 90))) else (some false))) else (if a0 ≥ 65 then (some (decide (a0 ≤ 90))) else (some false))) = some r := h
 clear h
 by_cases c2 : a0 ≥ 97
 ·rw [if_pos c2] at H
  have c2b0 : decide (97 ≤ a0) = true := decide_eq_true c2
  clear c2
  by_cases c3 : a0 ≤ 122
  ·rw [if_pos c3] at H
   have c3b0 : decide (a0 ≤ 122) = true := decide_eq_true c3
   clear c3
   obtain rfl := Option.some.inj H
   go_enter Tryd.func73, Tryd.ntmps73
   go_wp2
   go_ret
   exact ⟨y4_, y3_⟩
  ·rw [if_neg c3] at H
   have c3b0 : decide (a0 ≤ 122) = false := decide_eq_false c3
   clear c3
   by_cases c4 : a0 ≥ 65
   ·rw [if_pos c4] at H
    have c4b0 : decide (65 ≤ a0) = true := decide_eq_true c4
    clear c4
    obtain rfl := Option.some.inj H
    go_enter Tryd.func73, Tryd.ntmps73
    go_wp2
    go_ret
    exact ⟨y4_, y3_⟩
   ·rw [if_neg c4] at H
    have c4b0 : decide (65 ≤ a0) = false := decide_eq_false c4
    clear c4
    obtain rfl := Option.some.inj H
    go_enter Tryd.func73, Tryd.ntmps73
    go_wp2
    go_ret
    exact ⟨y4_, y3_⟩
 ·rw [if_neg c2] at H
  have c2b0 : decide (97 ≤ a0) = false := decide_eq_false c2
  clear c2
  by_cases c5 : a0 ≥ 65
  ·rw [if_pos c5] at H
   have c5b0 : decide (65 ≤ a0) = true := decide_eq_true c5
   clear c5
   obtain rfl := Option.some.inj H
   go_enter Tryd.func73, Tryd.ntmps73
   go_wp2
   go_ret
   exact ⟨y4_, y3_⟩
  ·rw [if_neg c5] at H
   have c5b0 : decide (65 ≤ a0) = false := decide_eq_false c5
   clear c5
   obtain rfl := Option.some.inj H
   go_enter Tryd.func73, Tryd.ntmps73
   go_wp2
   go_ret
   exact ⟨y4_, y3_⟩
end Go.Proofs.YtpnhjipaeggcpaaDoor.X
end
section
namespace Go.Proofs.YtpnhjipaeggcpaaDoor.X
open Go.RowKit Go.Proofs.YtpnhjipaeggcpaaDoorW.PrintWords Go.Proofs.YtpnhjipaeggcpaaDoorW.PrintLast Go.Proofs.YtpnhjipaeggcpaaDoorW.PrintMore
attribute [local go_sem] max2_int min2_int max_two min_two max_three min_three max_four min_four
def names_Right.f (k : Nat) (a0 : ByteArray) : Option (Bool) := (names_plain.f k a0 (⟨#[47, 62]⟩ : ByteArray)).bind fun t279 => (if t279 = true then (if 0 < (a0.size : Int) then ((fold_Letter.f (bt a0 0)).bind fun t280 => (some t280)) else (none)) else (some false))
set_option maxHeartbeats 8000000 in
set_option maxRecDepth 100000 in
theorem names_Right.calls (k : Nat) (a0 : ByteArray) (r : Bool) (w : World) (h : names_Right.f k a0 = some r) :
  Calls Tryd.prog 53 #[.string a0] w fun e w' => e = .returned (.bool r) ∧ Drawn0 w w' := by
 have H : ((names_plain.f k a0 (⟨#[47, 62]⟩ : ByteArray)).bind fun t279 => (if t279 = true then (if 0 < (a0.size : Int) then ((fold_Letter.f (bt a0 0)).bind fun t280 => (some t280)) else (none)) else (some false))) = some r := h
 clear h
 replace H := Option.bind_eq_some_iff.mp H
 obtain ⟨t279, A20, H⟩ := H
 have A2 := Aside0.mk A20
 clear A20
 by_cases c3 : t279 = true
 ·subst c3
  rw [if_pos rfl] at H
  by_cases c4 : 0 < (a0.size : Int)
  rotate_left
  ·rw [if_neg c4] at H
   exact absurd H (by simp)
  rw [if_pos c4] at H
  have c4b0 : decide (0 < (a0.size : Int)) = true := decide_eq_true c4
  have c4b1 : decide (0 < a0.size) = true := decide_eq_true (by omega)
  clear c4
  replace H := Option.bind_eq_some_iff.mp H
  obtain ⟨t280, A60, H⟩ := H
  have A6 := Aside0.mk A60
  clear A60
  obtain rfl := Option.some.inj H
  go_enter Tryd.func53, Tryd.ntmps53
  go_wp2_with (first | ((with_reducible refine gate_callee (f := 72) rfl ?_); refine goesL_ (some 4) rfl rfl Tryd.func72 (by kernel_rfl) rfl #[.string a0, .string (⟨#[47, 62]⟩ : ByteArray)] rfl y14_ ?_; (with_reducible refine (names_plain.calls k a0 (⟨#[47, 62]⟩ : ByteArray) true _ A2.out).mono ?_); rintro e w' ⟨rfl, ⟨nd, rfl⟩⟩; refine ⟨_, rfl, ?_⟩; have p5 : 0 ≤ (0 : Int) := (by omega); have q5 : 0 < a0.size := (by have : (0 : Int) < (a0.size : Int) := of_decide_eq_true y2_; omega); have hx5 : ∀ h : 0 < a0.size, ((a0[0]'h).toNat : Int) = bt a0 0 := bt_at a0 0; clear p5; have qi5 : (0 < (a0.size : Int)) = True := eq_true (of_decide_eq_true y2_); replace q5 := eq_true q5) | (go_at_call 73; (with_reducible refine (fold_Letter.calls (bt a0 0) t280 _ A6.out).mono ?_); rintro e w' ⟨rfl, ⟨nd, rfl⟩⟩))
  go_ret
  exact ⟨y4_, y3_⟩
 ·replace c3 := Bool.eq_false_iff.mpr c3
  subst c3
  rw [if_neg (show ¬ (false = true) by decide)] at H
  obtain rfl := Option.some.inj H
  go_enter Tryd.func53, Tryd.ntmps53
  go_wp2_with (first | ((with_reducible refine gate_callee (f := 72) rfl ?_); refine goesL_ (some 4) rfl rfl Tryd.func72 (by kernel_rfl) rfl #[.string a0, .string (⟨#[47, 62]⟩ : ByteArray)] rfl y14_ ?_; (with_reducible refine (names_plain.calls k a0 (⟨#[47, 62]⟩ : ByteArray) false _ A2.out).mono ?_); rintro e w' ⟨rfl, ⟨nd, rfl⟩⟩; refine ⟨_, rfl, ?_⟩))
  go_ret
  exact ⟨y4_, y3_⟩
end Go.Proofs.YtpnhjipaeggcpaaDoor.X
end
section
namespace Go.Proofs.YtpnhjipaeggcpaaDoor.X
open Go.RowKit Go.Proofs.YtpnhjipaeggcpaaDoorW.PrintWords Go.Proofs.YtpnhjipaeggcpaaDoorW.PrintLast Go.Proofs.YtpnhjipaeggcpaaDoorW.PrintMore
attribute [local go_sem] max2_int min2_int max_two min_two max_three min_three max_four min_four
def names_Gone.f (k : Nat) (a0 : ByteArray) : Option (Bool) := (names_among.f k a0 (([(⟨#[98, 111, 100, 121]⟩ : ByteArray), (⟨#[102, 114, 97, 109, 101, 115, 101, 116]⟩ : ByteArray), (⟨#[104, 101, 97, 100]⟩ : ByteArray), (⟨#[104, 116, 109, 108]⟩ : ByteArray)] : List ByteArray))).bind fun t284 => (some t284)
set_option maxHeartbeats 8000000 in
set_option maxRecDepth 100000 in
theorem names_Gone.calls (k : Nat) (a0 : ByteArray) (r : Bool) (w : World) (h : names_Gone.f k a0 = some r) :
  Calls Tryd.prog 54 #[.string a0] w fun e w' => e = .returned (.bool r) ∧ Below w.heap.size w w' := by
 have HB := Aside0.mk (Below.refl w.heap.size w)
 have H : ((names_among.f k a0 (([(⟨#[98, 111, 100, 121]⟩ : ByteArray), (⟨#[102, 114, 97, 109, 101, 115, 101, 116]⟩ : ByteArray), (⟨#[104, 101, 97, 100]⟩ : ByteArray), (⟨#[104, 116, 109, 108]⟩ : ByteArray)] : List ByteArray))).bind fun t284 => (some t284)) = some r := h
 clear h
 obtain ⟨y281, hy281⟩ : ∃ y_ : List ByteArray, y_ = (([(⟨#[98, 111, 100, 121]⟩ : ByteArray), (⟨#[102, 114, 97, 109, 101, 115, 101, 116]⟩ : ByteArray), (⟨#[104, 101, 97, 100]⟩ : ByteArray), (⟨#[104, 116, 109, 108]⟩ : ByteArray)] : List ByteArray)) := ⟨_, rfl⟩
 replace H : ((names_among.f k a0 y281).bind fun t284 => (some t284)) = some r := by first | (rw [hy281]; with_reducible exact H) | (have H2_ := (Option.bind_some _ _).symm.trans H; rw [hy281]; with_reducible exact H2_) | (have H2_ := (Option.bind_some _ _).symm.trans H; with_reducible exact H2_) | with_reducible exact H | (rw [hy281]; exact H) | exact H
 have Ny281 := Aside0.mk hy281
 clear hy281
 replace H := Option.bind_eq_some_iff.mp H
 obtain ⟨t284, A20, H⟩ := H
 have A2 := Aside0.mk A20
 clear A20
 obtain rfl := Option.some.inj H
 go_enter Tryd.func54, Tryd.ntmps54
 go_wp2_with (first | ((with_reducible refine gate_dst (N := 4) rfl ?_); refine Kd.R_lit Kd.string _ 9 ?hg (N := 4) ?hd (xs := ([(⟨#[98, 111, 100, 121]⟩ : ByteArray), (⟨#[102, 114, 97, 109, 101, 115, 101, 116]⟩ : ByteArray), (⟨#[104, 101, 97, 100]⟩ : ByteArray), (⟨#[104, 116, 109, 108]⟩ : ByteArray)] : List ByteArray)) (inner := [.string (⟨#[98, 111, 100, 121]⟩ : ByteArray), .string (⟨#[102, 114, 97, 109, 101, 115, 101, 116]⟩ : ByteArray), .string (⟨#[104, 101, 97, 100]⟩ : ByteArray), .string (⟨#[104, 116, 109, 108]⟩ : ByteArray)]) (ok := fun _ => True) (okp := fun _ => True) ?hr ?hp (fun _ hk => hk) trivial (Below.refl _ _) (Nat.le_refl _) (by simp) ?_; (case hd => rfl); (case hg => rfl); (case hr => first | (go_simp; done) | (go_simp; rfl)); (case hp => exact (Reps.one (show Kd.M Kd.string _ _ _ (⟨#[98, 111, 100, 121]⟩ : ByteArray) [.string (⟨#[98, 111, 100, 121]⟩ : ByteArray)] from rfl) (Reps.one (show Kd.M Kd.string _ _ _ (⟨#[102, 114, 97, 109, 101, 115, 101, 116]⟩ : ByteArray) [.string (⟨#[102, 114, 97, 109, 101, 115, 101, 116]⟩ : ByteArray)] from rfl) (Reps.one (show Kd.M Kd.string _ _ _ (⟨#[104, 101, 97, 100]⟩ : ByteArray) [.string (⟨#[104, 101, 97, 100]⟩ : ByteArray)] from rfl) (Reps.one (show Kd.M Kd.string _ _ _ (⟨#[104, 116, 109, 108]⟩ : ByteArray) [.string (⟨#[104, 116, 109, 108]⟩ : ByteArray)] from rfl) (Reps.none _ _)))))); intro v282 w3 ho4 hb hg_ hnew_; clear hg_ hnew_; (first | rw [← Ny281.out] at ho4 | (simp only [Int.reduceToNat] at ho4; rw [← Ny281.out] at ho4)); have n0_ := Aside0.mk (Kd.R_lower ho4 (below_size y13_)); have n1_ := Aside0.mk (below_step y13_ hb); clear HB; have HO283 := n0_; have HB := n1_; clear n0_ n1_; clear hb ho4; obtain ⟨Ao5, co5, eo5⟩ := Kd.R_slice HO283.out; subst eo5) | ((with_reducible refine gate_callee (f := 42) rfl ?_); refine goesL_ (some 5) rfl rfl Tryd.func42 (by kernel_rfl) rfl #[.string a0, .slice Ao5 y281.length co5] rfl y14_ ?_; (with_reducible refine (names_among.calls k a0 _ _ y281 t284 _ ?side1 ?side2 A2.out).mono ?_); (case side1 => repeat (first | exact (Kd.R_reads' HO283.out).2.2 | (with_reducible refine Kd.C_alloc ?_ _) | (with_reducible refine Kd.C_drewN ?_ _) | (with_reducible refine Kd.C_drew ?_))); (case side2 => exact (Kd.R_reads' HO283.out).2.1); rintro e w' ⟨rfl, ⟨nd, rfl⟩⟩; refine ⟨_, rfl, ?_⟩))
 go_ret
 exact ⟨y12_, y13_⟩
end Go.Proofs.YtpnhjipaeggcpaaDoor.X
end
section
namespace Go.Proofs.YtpnhjipaeggcpaaDoor.X
open Go.RowKit Go.Proofs.YtpnhjipaeggcpaaDoorW.PrintWords Go.Proofs.YtpnhjipaeggcpaaDoorW.PrintLast Go.Proofs.YtpnhjipaeggcpaaDoorW.PrintMore
attribute [local go_sem] max2_int min2_int max_two min_two max_three min_three max_four min_four
def build_paragraph.f (a0 : ByteArray) : Option (Bool) := if a0.toList = ([108, 105] : List UInt8) then (some true) else (if a0.toList = ([100, 100] : List UInt8) then (some true) else (some (a0.toList == ([100, 116] : List UInt8))))
set_option maxHeartbeats 8000000 in
set_option maxRecDepth 100000 in
theorem build_paragraph.calls (a0 : ByteArray) (r : Bool) (w : World) (h : build_paragraph.f a0 = some r) :
  Calls Tryd.prog 74 #[.string a0] w fun e w' => e = .returned (.bool r) ∧ Drawn0 w w' := by
 have H : (if a0.toList = ([108, 105] : List UInt8) then (some true) else (if a0.toList = ([100, 100] : List UInt8) then (some true) else (some (a0.toList == ([100, 116] : List UInt8))))) = some r := h
 clear h
 by_cases c2 : a0.toList = ([108, 105] : List UInt8)
 ·rw [if_pos c2] at H
  have c2b0 : (a0.toList == ([108, 105] : List UInt8)) = true := beq_iff_eq.mpr c2
  have c2b1 : (a0.toList != ([108, 105] : List UInt8)) = false := bne_eq_false_iff_eq.mpr c2
  clear c2
  obtain rfl := Option.some.inj H
  go_enter Tryd.func74, Tryd.ntmps74
  go_wp2
  go_ret
  exact ⟨y4_, y3_⟩
 ·rw [if_neg c2] at H
  have c2b0 : (a0.toList == ([108, 105] : List UInt8)) = false := beq_eq_false_iff_ne.mpr c2
  have c2b1 : (a0.toList != ([108, 105] : List UInt8)) = true := bne_iff_ne.mpr c2
  by_cases c3 : a0.toList = ([100, 100] : List UInt8)
  ·rw [if_pos c3] at H
   have c3b0 : (a0.toList == ([100, 100] : List UInt8)) = true := beq_iff_eq.mpr c3
   have c3b1 : (a0.toList != ([100, 100] : List UInt8)) = false := bne_eq_false_iff_eq.mpr c3
   clear c3
   obtain rfl := Option.some.inj H
   go_enter Tryd.func74, Tryd.ntmps74
   go_wp2
   go_ret
   exact ⟨y4_, y3_⟩
  ·rw [if_neg c3] at H
   have c3b0 : (a0.toList == ([100, 100] : List UInt8)) = false := beq_eq_false_iff_ne.mpr c3
   have c3b1 : (a0.toList != ([100, 100] : List UInt8)) = true := bne_iff_ne.mpr c3
   obtain rfl := Option.some.inj H
   go_enter Tryd.func74, Tryd.ntmps74
   go_wp2
   go_ret
   exact ⟨y4_, y3_⟩
end Go.Proofs.YtpnhjipaeggcpaaDoor.X
end
section
namespace Go.Proofs.YtpnhjipaeggcpaaDoor.X
open Go.RowKit Go.Proofs.YtpnhjipaeggcpaaDoorW.PrintWords Go.Proofs.YtpnhjipaeggcpaaDoorW.PrintLast Go.Proofs.YtpnhjipaeggcpaaDoorW.PrintMore
attribute [local go_sem] max2_int min2_int max_two min_two max_three min_three max_four min_four
def names_table.f (k : Nat) (a0 : ByteArray) : Option (Bool) := (names_among.f k a0 (([(⟨#[116, 114]⟩ : ByteArray), (⟨#[116, 100]⟩ : ByteArray), (⟨#[116, 104]⟩ : ByteArray), (⟨#[116, 98, 111, 100, 121]⟩ : ByteArray), (⟨#[116, 102, 111, 111, 116]⟩ : ByteArray), (⟨#[116, 104, 101, 97, 100]⟩ : ByteArray)] : List ByteArray))).bind fun t288 => (some t288)
set_option maxHeartbeats 8000000 in
set_option maxRecDepth 100000 in
theorem names_table.calls (k : Nat) (a0 : ByteArray) (r : Bool) (w : World) (h : names_table.f k a0 = some r) :
  Calls Tryd.prog 93 #[.string a0] w fun e w' => e = .returned (.bool r) ∧ Below w.heap.size w w' := by
 have HB := Aside0.mk (Below.refl w.heap.size w)
 have H : ((names_among.f k a0 (([(⟨#[116, 114]⟩ : ByteArray), (⟨#[116, 100]⟩ : ByteArray), (⟨#[116, 104]⟩ : ByteArray), (⟨#[116, 98, 111, 100, 121]⟩ : ByteArray), (⟨#[116, 102, 111, 111, 116]⟩ : ByteArray), (⟨#[116, 104, 101, 97, 100]⟩ : ByteArray)] : List ByteArray))).bind fun t288 => (some t288)) = some r := h
 clear h
 obtain ⟨y285, hy285⟩ : ∃ y_ : List ByteArray, y_ = (([(⟨#[116, 114]⟩ : ByteArray), (⟨#[116, 100]⟩ : ByteArray), (⟨#[116, 104]⟩ : ByteArray), (⟨#[116, 98, 111, 100, 121]⟩ : ByteArray), (⟨#[116, 102, 111, 111, 116]⟩ : ByteArray), (⟨#[116, 104, 101, 97, 100]⟩ : ByteArray)] : List ByteArray)) := ⟨_, rfl⟩
 replace H : ((names_among.f k a0 y285).bind fun t288 => (some t288)) = some r := by first | (rw [hy285]; with_reducible exact H) | (have H2_ := (Option.bind_some _ _).symm.trans H; rw [hy285]; with_reducible exact H2_) | (have H2_ := (Option.bind_some _ _).symm.trans H; with_reducible exact H2_) | with_reducible exact H | (rw [hy285]; exact H) | exact H
 have Ny285 := Aside0.mk hy285
 clear hy285
 replace H := Option.bind_eq_some_iff.mp H
 obtain ⟨t288, A20, H⟩ := H
 have A2 := Aside0.mk A20
 clear A20
 obtain rfl := Option.some.inj H
 go_enter Tryd.func93, Tryd.ntmps93
 go_wp2_with (first | ((with_reducible refine gate_dst (N := 4) rfl ?_); refine Kd.R_lit Kd.string _ 9 ?hg (N := 4) ?hd (xs := ([(⟨#[116, 114]⟩ : ByteArray), (⟨#[116, 100]⟩ : ByteArray), (⟨#[116, 104]⟩ : ByteArray), (⟨#[116, 98, 111, 100, 121]⟩ : ByteArray), (⟨#[116, 102, 111, 111, 116]⟩ : ByteArray), (⟨#[116, 104, 101, 97, 100]⟩ : ByteArray)] : List ByteArray)) (inner := [.string (⟨#[116, 114]⟩ : ByteArray), .string (⟨#[116, 100]⟩ : ByteArray), .string (⟨#[116, 104]⟩ : ByteArray), .string (⟨#[116, 98, 111, 100, 121]⟩ : ByteArray), .string (⟨#[116, 102, 111, 111, 116]⟩ : ByteArray), .string (⟨#[116, 104, 101, 97, 100]⟩ : ByteArray)]) (ok := fun _ => True) (okp := fun _ => True) ?hr ?hp (fun _ hk => hk) trivial (Below.refl _ _) (Nat.le_refl _) (by simp) ?_; (case hd => rfl); (case hg => rfl); (case hr => first | (go_simp; done) | (go_simp; rfl)); (case hp => exact (Reps.one (show Kd.M Kd.string _ _ _ (⟨#[116, 114]⟩ : ByteArray) [.string (⟨#[116, 114]⟩ : ByteArray)] from rfl) (Reps.one (show Kd.M Kd.string _ _ _ (⟨#[116, 100]⟩ : ByteArray) [.string (⟨#[116, 100]⟩ : ByteArray)] from rfl) (Reps.one (show Kd.M Kd.string _ _ _ (⟨#[116, 104]⟩ : ByteArray) [.string (⟨#[116, 104]⟩ : ByteArray)] from rfl) (Reps.one (show Kd.M Kd.string _ _ _ (⟨#[116, 98, 111, 100, 121]⟩ : ByteArray) [.string (⟨#[116, 98, 111, 100, 121]⟩ : ByteArray)] from rfl) (Reps.one (show Kd.M Kd.string _ _ _ (⟨#[116, 102, 111, 111, 116]⟩ : ByteArray) [.string (⟨#[116, 102, 111, 111, 116]⟩ : ByteArray)] from rfl) (Reps.one (show Kd.M Kd.string _ _ _ (⟨#[116, 104, 101, 97, 100]⟩ : ByteArray) [.string (⟨#[116, 104, 101, 97, 100]⟩ : ByteArray)] from rfl) (Reps.none _ _)))))))); intro v286 w3 ho4 hb hg_ hnew_; clear hg_ hnew_; (first | rw [← Ny285.out] at ho4 | (simp only [Int.reduceToNat] at ho4; rw [← Ny285.out] at ho4)); have n0_ := Aside0.mk (Kd.R_lower ho4 (below_size y13_)); have n1_ := Aside0.mk (below_step y13_ hb); clear HB; have HO287 := n0_; have HB := n1_; clear n0_ n1_; clear hb ho4; obtain ⟨Ao5, co5, eo5⟩ := Kd.R_slice HO287.out; subst eo5) | ((with_reducible refine gate_callee (f := 42) rfl ?_); refine goesL_ (some 5) rfl rfl Tryd.func42 (by kernel_rfl) rfl #[.string a0, .slice Ao5 y285.length co5] rfl y14_ ?_; (with_reducible refine (names_among.calls k a0 _ _ y285 t288 _ ?side1 ?side2 A2.out).mono ?_); (case side1 => repeat (first | exact (Kd.R_reads' HO287.out).2.2 | (with_reducible refine Kd.C_alloc ?_ _) | (with_reducible refine Kd.C_drewN ?_ _) | (with_reducible refine Kd.C_drew ?_))); (case side2 => exact (Kd.R_reads' HO287.out).2.1); rintro e w' ⟨rfl, ⟨nd, rfl⟩⟩; refine ⟨_, rfl, ?_⟩))
 go_ret
 exact ⟨y12_, y13_⟩
end Go.Proofs.YtpnhjipaeggcpaaDoor.X
end
section
namespace Go.Proofs.YtpnhjipaeggcpaaDoor.X
open Go.RowKit Go.Proofs.YtpnhjipaeggcpaaDoorW.PrintWords Go.Proofs.YtpnhjipaeggcpaaDoorW.PrintLast Go.Proofs.YtpnhjipaeggcpaaDoorW.PrintMore
attribute [local go_sem] max2_int min2_int max_two min_two max_three min_three max_four min_four
def names_Walls.f (k : Nat) (a0 : ByteArray) : Option (List ByteArray) := if a0.toList = ([108, 105] : List UInt8) then (some (([(⟨#[109, 101, 110, 117]⟩ : ByteArray), (⟨#[111, 108]⟩ : ByteArray), (⟨#[116, 101, 109, 112, 108, 97, 116, 101]⟩ : ByteArray), (⟨#[117, 108]⟩ : ByteArray)] : List ByteArray))) else ((names_among.f k a0 (([(⟨#[100, 100]⟩ : ByteArray), (⟨#[100, 116]⟩ : ByteArray)] : List ByteArray))).bind fun t295 => (if t295 = true then (some (([(⟨#[100, 108]⟩ : ByteArray), (⟨#[116, 101, 109, 112, 108, 97, 116, 101]⟩ : ByteArray)] : List ByteArray))) else ((names_among.f k a0 (([(⟨#[111, 112, 116, 105, 111, 110]⟩ : ByteArray), (⟨#[111, 112, 116, 103, 114, 111, 117, 112]⟩ : ByteArray)] : List ByteArray))).bind fun t302 => (if t302 = true then (some (([(⟨#[115, 101, 108, 101, 99, 116]⟩ : ByteArray), (⟨#[116, 101, 109, 112, 108, 97, 116, 101]⟩ : ByteArray)] : List ByteArray))) else ((names_table.f k a0).bind fun t306 => (if t306 = true then (some (([(⟨#[116, 97, 98, 108, 101]⟩ : ByteArray), (⟨#[116, 101, 109, 112, 108, 97, 116, 101]⟩ : ByteArray)] : List ByteArray))) else (some (([(⟨#[98, 117, 116, 116, 111, 110]⟩ : ByteArray), (⟨#[99, 97, 112, 116, 105, 111, 110]⟩ : ByteArray), (⟨#[116, 97, 98, 108, 101]⟩ : ByteArray), (⟨#[116, 100]⟩ : ByteArray), (⟨#[116, 101, 109, 112, 108, 97, 116, 101]⟩ : ByteArray), (⟨#[116, 104]⟩ : ByteArray)] : List ByteArray)))))))))
set_option maxHeartbeats 8000000 in
set_option maxRecDepth 100000 in
theorem names_Walls.calls (k : Nat) (a0 : ByteArray) (r : List ByteArray) (w : World) (h : names_Walls.f k a0 = some r) :
  Calls Tryd.prog 76 #[.string a0] w fun e w' => ∃ v0_ : Value, e = .returned (v0_) ∧ Kd.R Kd.string 9 w' w.heap.size (fun _ => True) v0_ r ∧ Below w.heap.size w w' := by
 have HB := Aside0.mk (Below.refl w.heap.size w)
 have H : (if a0.toList = ([108, 105] : List UInt8) then (some (([(⟨#[109, 101, 110, 117]⟩ : ByteArray), (⟨#[111, 108]⟩ : ByteArray), (⟨#[116, 101, 109, 112, 108, 97, 116, 101]⟩ : ByteArray), (⟨#[117, 108]⟩ : ByteArray)] : List ByteArray))) else ((names_among.f k a0 (([(⟨#[100, 100]⟩ : ByteArray), (⟨#[100, 116]⟩ : ByteArray)] : List ByteArray))).bind fun t295 => (if t295 = true then (some (([(⟨#[100, 108]⟩ : ByteArray), (⟨#[116, 101, 109, 112, 108, 97, 116, 101]⟩ : ByteArray)] : List ByteArray))) else ((names_among.f k a0 (([(⟨#[111, 112, 116, 105, 111, 110]⟩ : ByteArray), (⟨#[111, 112, 116, 103, 114, 111, 117, 112]⟩ : ByteArray)] : List ByteArray))).bind fun t302 => (if t302 = true then (some (([(⟨#[115, 101, 108, 101, 99, 116]⟩ : ByteArray), (⟨#[116, 101, 109, 112, 108, 97, 116, 101]⟩ : ByteArray)] : List ByteArray))) else ((names_table.f k a0).bind fun t306 => (if t306 = true then (some (([(⟨#[116, 97, 98, 108, 101]⟩ : ByteArray), (⟨#[116, 101, 109, 112, 108, 97, 116, 101]⟩ : ByteArray)] : List ByteArray))) else (some (([(⟨#[98, 117, 116, 116, 111, 110]⟩ : ByteArray), (⟨#[99, 97, 112, 116, 105, 111, 110]⟩ : ByteArray), (⟨#[116, 97, 98, 108, 101]⟩ : ByteArray), (⟨#[116, 100]⟩ : ByteArray), (⟨#[116, 101, 109, 112, 108, 97, 116, 101]⟩ : ByteArray), (⟨#[116, 104]⟩ : ByteArray)] : List ByteArray)))))))))) = some r := h
 clear h
 by_cases c2 : a0.toList = ([108, 105] : List UInt8)
 ·rw [if_pos c2] at H
  have c2b0 : (a0.toList == ([108, 105] : List UInt8)) = true := beq_iff_eq.mpr c2
  have c2b1 : (a0.toList != ([108, 105] : List UInt8)) = false := bne_eq_false_iff_eq.mpr c2
  clear c2
  obtain ⟨y289, hy289⟩ : ∃ y_ : List ByteArray, y_ = (([(⟨#[109, 101, 110, 117]⟩ : ByteArray), (⟨#[111, 108]⟩ : ByteArray), (⟨#[116, 101, 109, 112, 108, 97, 116, 101]⟩ : ByteArray), (⟨#[117, 108]⟩ : ByteArray)] : List ByteArray)) := ⟨_, rfl⟩
  replace H : (some y289) = some r := by first | (rw [hy289]; with_reducible exact H) | (have H2_ := (Option.bind_some _ _).symm.trans H; rw [hy289]; with_reducible exact H2_) | (have H2_ := (Option.bind_some _ _).symm.trans H; with_reducible exact H2_) | with_reducible exact H | (rw [hy289]; exact H) | exact H
  have Ny289 := Aside0.mk hy289
  clear hy289
  obtain rfl := Option.some.inj H
  go_enter Tryd.func76, Tryd.ntmps76
  go_wp2_with (first | ((with_reducible refine gate_dst (N := 6) rfl ?_); refine Kd.R_lit Kd.string _ 9 ?hg (N := 6) ?hd (xs := ([(⟨#[109, 101, 110, 117]⟩ : ByteArray), (⟨#[111, 108]⟩ : ByteArray), (⟨#[116, 101, 109, 112, 108, 97, 116, 101]⟩ : ByteArray), (⟨#[117, 108]⟩ : ByteArray)] : List ByteArray)) (inner := [.string (⟨#[109, 101, 110, 117]⟩ : ByteArray), .string (⟨#[111, 108]⟩ : ByteArray), .string (⟨#[116, 101, 109, 112, 108, 97, 116, 101]⟩ : ByteArray), .string (⟨#[117, 108]⟩ : ByteArray)]) (ok := fun _ => True) (okp := fun _ => True) ?hr ?hp (fun _ hk => hk) trivial (Below.refl _ _) (Nat.le_refl _) (by simp) ?_; (case hd => rfl); (case hg => rfl); (case hr => first | (go_simp; done) | (go_simp; rfl)); (case hp => exact (Reps.one (show Kd.M Kd.string _ _ _ (⟨#[109, 101, 110, 117]⟩ : ByteArray) [.string (⟨#[109, 101, 110, 117]⟩ : ByteArray)] from rfl) (Reps.one (show Kd.M Kd.string _ _ _ (⟨#[111, 108]⟩ : ByteArray) [.string (⟨#[111, 108]⟩ : ByteArray)] from rfl) (Reps.one (show Kd.M Kd.string _ _ _ (⟨#[116, 101, 109, 112, 108, 97, 116, 101]⟩ : ByteArray) [.string (⟨#[116, 101, 109, 112, 108, 97, 116, 101]⟩ : ByteArray)] from rfl) (Reps.one (show Kd.M Kd.string _ _ _ (⟨#[117, 108]⟩ : ByteArray) [.string (⟨#[117, 108]⟩ : ByteArray)] from rfl) (Reps.none _ _)))))); intro v290 w3 ho4 hb hg_ hnew_; clear hg_ hnew_; (first | rw [← Ny289.out] at ho4 | (simp only [Int.reduceToNat] at ho4; rw [← Ny289.out] at ho4)); have n0_ := Aside0.mk (Kd.R_lower ho4 (below_size y13_)); have n1_ := Aside0.mk (below_step y13_ hb); clear HB; have HO291 := n0_; have HB := n1_; clear n0_ n1_; clear hb ho4))
  go_ret
  exact ⟨_, y12_, by (with_reducible repeat (first | apply Kd.R_alloc | apply Kd.R_drewN | apply Kd.R_drew)); exact HO291.out, y13_⟩
 ·rw [if_neg c2] at H
  have c2b0 : (a0.toList == ([108, 105] : List UInt8)) = false := beq_eq_false_iff_ne.mpr c2
  have c2b1 : (a0.toList != ([108, 105] : List UInt8)) = true := bne_iff_ne.mpr c2
  obtain ⟨y292, hy292⟩ : ∃ y_ : List ByteArray, y_ = (([(⟨#[100, 100]⟩ : ByteArray), (⟨#[100, 116]⟩ : ByteArray)] : List ByteArray)) := ⟨_, rfl⟩
  replace H : ((names_among.f k a0 y292).bind fun t295 => (if t295 = true then (some (([(⟨#[100, 108]⟩ : ByteArray), (⟨#[116, 101, 109, 112, 108, 97, 116, 101]⟩ : ByteArray)] : List ByteArray))) else ((names_among.f k a0 (([(⟨#[111, 112, 116, 105, 111, 110]⟩ : ByteArray), (⟨#[111, 112, 116, 103, 114, 111, 117, 112]⟩ : ByteArray)] : List ByteArray))).bind fun t302 => (if t302 = true then (some (([(⟨#[115, 101, 108, 101, 99, 116]⟩ : ByteArray), (⟨#[116, 101, 109, 112, 108, 97, 116, 101]⟩ : ByteArray)] : List ByteArray))) else ((names_table.f k a0).bind fun t306 => (if t306 = true then (some (([(⟨#[116, 97, 98, 108, 101]⟩ : ByteArray), (⟨#[116, 101, 109, 112, 108, 97, 116, 101]⟩ : ByteArray)] : List ByteArray))) else (some (([(⟨#[98, 117, 116, 116, 111, 110]⟩ : ByteArray), (⟨#[99, 97, 112, 116, 105, 111, 110]⟩ : ByteArray), (⟨#[116, 97, 98, 108, 101]⟩ : ByteArray), (⟨#[116, 100]⟩ : ByteArray), (⟨#[116, 101, 109, 112, 108, 97, 116, 101]⟩ : ByteArray), (⟨#[116, 104]⟩ : ByteArray)] : List ByteArray))))))))) = some r := by first | (rw [hy292]; with_reducible exact H) | (have H2_ := (Option.bind_some _ _).symm.trans H; rw [hy292]; with_reducible exact H2_) | (have H2_ := (Option.bind_some _ _).symm.trans H; with_reducible exact H2_) | with_reducible exact H | (rw [hy292]; exact H) | exact H
  have Ny292 := Aside0.mk hy292
  clear hy292
  replace H := Option.bind_eq_some_iff.mp H
  obtain ⟨t295, A50, H⟩ := H
  have A5 := Aside0.mk A50
  clear A50
  by_cases c6 : t295 = true
  ·subst c6
   rw [if_pos rfl] at H
   obtain ⟨y296, hy296⟩ : ∃ y_ : List ByteArray, y_ = (([(⟨#[100, 108]⟩ : ByteArray), (⟨#[116, 101, 109, 112, 108, 97, 116, 101]⟩ : ByteArray)] : List ByteArray)) := ⟨_, rfl⟩
   replace H : (some y296) = some r := by first | (rw [hy296]; with_reducible exact H) | (have H2_ := (Option.bind_some _ _).symm.trans H; rw [hy296]; with_reducible exact H2_) | (have H2_ := (Option.bind_some _ _).symm.trans H; with_reducible exact H2_) | with_reducible exact H | (rw [hy296]; exact H) | exact H
   have Ny296 := Aside0.mk hy296
   clear hy296
   obtain rfl := Option.some.inj H
   go_enter Tryd.func76, Tryd.ntmps76
   go_wp2_with (first | ((with_reducible refine gate_dst (N := 9) rfl ?_); refine Kd.R_lit Kd.string _ 9 ?hg (N := 9) ?hd (xs := ([(⟨#[100, 100]⟩ : ByteArray), (⟨#[100, 116]⟩ : ByteArray)] : List ByteArray)) (inner := [.string (⟨#[100, 100]⟩ : ByteArray), .string (⟨#[100, 116]⟩ : ByteArray)]) (ok := fun _ => True) (okp := fun _ => True) ?hr ?hp (fun _ hk => hk) trivial (Below.refl _ _) (Nat.le_refl _) (by simp) ?_; (case hd => rfl); (case hg => rfl); (case hr => first | (go_simp; done) | (go_simp; rfl)); (case hp => exact (Reps.one (show Kd.M Kd.string _ _ _ (⟨#[100, 100]⟩ : ByteArray) [.string (⟨#[100, 100]⟩ : ByteArray)] from rfl) (Reps.one (show Kd.M Kd.string _ _ _ (⟨#[100, 116]⟩ : ByteArray) [.string (⟨#[100, 116]⟩ : ByteArray)] from rfl) (Reps.none _ _)))); intro v293 w7 ho8 hb hg_ hnew_; clear hg_ hnew_; (first | rw [← Ny292.out] at ho8 | (simp only [Int.reduceToNat] at ho8; rw [← Ny292.out] at ho8)); have n0_ := Aside0.mk (Kd.R_lower ho8 (below_size y13_)); have n1_ := Aside0.mk (below_step y13_ hb); clear HB; have HO294 := n0_; have HB := n1_; clear n0_ n1_; clear hb ho8; obtain ⟨Ao9, co9, eo9⟩ := Kd.R_slice HO294.out; subst eo9) | ((with_reducible refine gate_callee (f := 42) rfl ?_); refine goesL_ (some 10) rfl rfl Tryd.func42 (by kernel_rfl) rfl #[.string a0, .slice Ao9 y292.length co9] rfl y14_ ?_; (with_reducible refine (names_among.calls k a0 _ _ y292 true _ ?side1 ?side2 A5.out).mono ?_); (case side1 => repeat (first | exact (Kd.R_reads' HO294.out).2.2 | (with_reducible refine Kd.C_alloc ?_ _) | (with_reducible refine Kd.C_drewN ?_ _) | (with_reducible refine Kd.C_drew ?_))); (case side2 => exact (Kd.R_reads' HO294.out).2.1); rintro e w' ⟨rfl, ⟨nd, rfl⟩⟩; refine ⟨_, rfl, ?_⟩) | ((with_reducible refine gate_dst (N := 11) rfl ?_); refine Kd.R_lit Kd.string _ 9 ?hg (N := 11) ?hd (xs := ([(⟨#[100, 108]⟩ : ByteArray), (⟨#[116, 101, 109, 112, 108, 97, 116, 101]⟩ : ByteArray)] : List ByteArray)) (inner := [.string (⟨#[100, 108]⟩ : ByteArray), .string (⟨#[116, 101, 109, 112, 108, 97, 116, 101]⟩ : ByteArray)]) (ok := fun _ => True) (okp := fun _ => True) ?hr ?hp (fun _ hk => hk) trivial (Below.refl _ _) (Nat.le_refl _) (by simp) ?_; (case hd => rfl); (case hg => rfl); (case hr => first | (go_simp; done) | (go_simp; rfl)); (case hp => exact (Reps.one (show Kd.M Kd.string _ _ _ (⟨#[100, 108]⟩ : ByteArray) [.string (⟨#[100, 108]⟩ : ByteArray)] from rfl) (Reps.one (show Kd.M Kd.string _ _ _ (⟨#[116, 101, 109, 112, 108, 97, 116, 101]⟩ : ByteArray) [.string (⟨#[116, 101, 109, 112, 108, 97, 116, 101]⟩ : ByteArray)] from rfl) (Reps.none _ _)))); intro v297 w10 ho11 hb hg_ hnew_; clear hg_ hnew_; (first | rw [← Ny296.out] at ho11 | (simp only [Int.reduceToNat] at ho11; rw [← Ny296.out] at ho11)); have n0_ := Aside0.mk (Kd.R_elder' (y10_ HO294.out) (Kd.R_base ho11) hb); have n1_ := Aside0.mk (Kd.R_lower (Kd.R_new' ho11 (Kd.R_lt (y10_ HO294.out))) (below_size y13_)); have n2_ := Aside0.mk (below_step y13_ hb); clear HO294; clear HB; have HO294 := n0_; have HO298 := n1_; have HB := n2_; clear n0_ n1_ n2_; clear hb ho11))
   go_ret
   exact ⟨_, y12_, by (with_reducible repeat (first | apply Kd.R_alloc | apply Kd.R_drewN | apply Kd.R_drew)); exact Kd.R_mono HO298.out (fun _ hk => trivial), y13_⟩
  ·replace c6 := Bool.eq_false_iff.mpr c6
   subst c6
   rw [if_neg (show ¬ (false = true) by decide)] at H
   obtain ⟨y299, hy299⟩ : ∃ y_ : List ByteArray, y_ = (([(⟨#[111, 112, 116, 105, 111, 110]⟩ : ByteArray), (⟨#[111, 112, 116, 103, 114, 111, 117, 112]⟩ : ByteArray)] : List ByteArray)) := ⟨_, rfl⟩
   replace H : ((names_among.f k a0 y299).bind fun t302 => (if t302 = true then (some (([(⟨#[115, 101, 108, 101, 99, 116]⟩ : ByteArray), (⟨#[116, 101, 109, 112, 108, 97, 116, 101]⟩ : ByteArray)] : List ByteArray))) else ((names_table.f k a0).bind fun t306 => (if t306 = true then (some (([(⟨#[116, 97, 98, 108, 101]⟩ : ByteArray), (⟨#[116, 101, 109, 112, 108, 97, 116, 101]⟩ : ByteArray)] : List ByteArray))) else (some (([(⟨#[98, 117, 116, 116, 111, 110]⟩ : ByteArray), (⟨#[99, 97, 112, 116, 105, 111, 110]⟩ : ByteArray), (⟨#[116, 97, 98, 108, 101]⟩ : ByteArray), (⟨#[116, 100]⟩ : ByteArray), (⟨#[116, 101, 109, 112, 108, 97, 116, 101]⟩ : ByteArray), (⟨#[116, 104]⟩ : ByteArray)] : List ByteArray))))))) = some r := by first | (rw [hy299]; with_reducible exact H) | (have H2_ := (Option.bind_some _ _).symm.trans H; rw [hy299]; with_reducible exact H2_) | (have H2_ := (Option.bind_some _ _).symm.trans H; with_reducible exact H2_) | with_reducible exact H | (rw [hy299]; exact H) | exact H
   have Ny299 := Aside0.mk hy299
   clear hy299
   replace H := Option.bind_eq_some_iff.mp H
   obtain ⟨t302, A120, H⟩ := H
   have A12 := Aside0.mk A120
   clear A120
   by_cases c13 : t302 = true
   ·subst c13
    rw [if_pos rfl] at H
    obtain ⟨y303, hy303⟩ : ∃ y_ : List ByteArray, y_ = (([(⟨#[115, 101, 108, 101, 99, 116]⟩ : ByteArray), (⟨#[116, 101, 109, 112, 108, 97, 116, 101]⟩ : ByteArray)] : List ByteArray)) := ⟨_, rfl⟩
    replace H : (some y303) = some r := by first | (rw [hy303]; with_reducible exact H) | (have H2_ := (Option.bind_some _ _).symm.trans H; rw [hy303]; with_reducible exact H2_) | (have H2_ := (Option.bind_some _ _).symm.trans H; with_reducible exact H2_) | with_reducible exact H | (rw [hy303]; exact H) | exact H
    have Ny303 := Aside0.mk hy303
    clear hy303
    obtain rfl := Option.some.inj H
    go_enter Tryd.func76, Tryd.ntmps76
    go_wp2_with (first | ((with_reducible refine gate_dst (N := 9) rfl ?_); refine Kd.R_lit Kd.string _ 9 ?hg (N := 9) ?hd (xs := ([(⟨#[100, 100]⟩ : ByteArray), (⟨#[100, 116]⟩ : ByteArray)] : List ByteArray)) (inner := [.string (⟨#[100, 100]⟩ : ByteArray), .string (⟨#[100, 116]⟩ : ByteArray)]) (ok := fun _ => True) (okp := fun _ => True) ?hr ?hp (fun _ hk => hk) trivial (Below.refl _ _) (Nat.le_refl _) (by simp) ?_; (case hd => rfl); (case hg => rfl); (case hr => first | (go_simp; done) | (go_simp; rfl)); (case hp => exact (Reps.one (show Kd.M Kd.string _ _ _ (⟨#[100, 100]⟩ : ByteArray) [.string (⟨#[100, 100]⟩ : ByteArray)] from rfl) (Reps.one (show Kd.M Kd.string _ _ _ (⟨#[100, 116]⟩ : ByteArray) [.string (⟨#[100, 116]⟩ : ByteArray)] from rfl) (Reps.none _ _)))); intro v293 w14 ho15 hb hg_ hnew_; clear hg_ hnew_; (first | rw [← Ny292.out] at ho15 | (simp only [Int.reduceToNat] at ho15; rw [← Ny292.out] at ho15)); have n0_ := Aside0.mk (Kd.R_lower ho15 (below_size y13_)); have n1_ := Aside0.mk (below_step y13_ hb); clear HB; have HO294 := n0_; have HB := n1_; clear n0_ n1_; clear hb ho15; obtain ⟨Ao16, co16, eo16⟩ := Kd.R_slice HO294.out; subst eo16) | ((with_reducible refine gate_callee (f := 42) rfl ?_); refine goesL_ (some 10) rfl rfl Tryd.func42 (by kernel_rfl) rfl #[.string a0, .slice Ao16 y292.length co16] rfl y14_ ?_; (with_reducible refine (names_among.calls k a0 _ _ y292 false _ ?side1 ?side2 A5.out).mono ?_); (case side1 => repeat (first | exact (Kd.R_reads' HO294.out).2.2 | (with_reducible refine Kd.C_alloc ?_ _) | (with_reducible refine Kd.C_drewN ?_ _) | (with_reducible refine Kd.C_drew ?_))); (case side2 => exact (Kd.R_reads' HO294.out).2.1); rintro e w' ⟨rfl, ⟨nd, rfl⟩⟩; refine ⟨_, rfl, ?_⟩) | ((with_reducible refine gate_dst (N := 14) rfl ?_); refine Kd.R_lit Kd.string _ 9 ?hg (N := 14) ?hd (xs := ([(⟨#[111, 112, 116, 105, 111, 110]⟩ : ByteArray), (⟨#[111, 112, 116, 103, 114, 111, 117, 112]⟩ : ByteArray)] : List ByteArray)) (inner := [.string (⟨#[111, 112, 116, 105, 111, 110]⟩ : ByteArray), .string (⟨#[111, 112, 116, 103, 114, 111, 117, 112]⟩ : ByteArray)]) (ok := fun _ => True) (okp := fun _ => True) ?hr ?hp (fun _ hk => hk) trivial (Below.refl _ _) (Nat.le_refl _) (by simp) ?_; (case hd => rfl); (case hg => rfl); (case hr => first | (go_simp; done) | (go_simp; rfl)); (case hp => exact (Reps.one (show Kd.M Kd.string _ _ _ (⟨#[111, 112, 116, 105, 111, 110]⟩ : ByteArray) [.string (⟨#[111, 112, 116, 105, 111, 110]⟩ : ByteArray)] from rfl) (Reps.one (show Kd.M Kd.string _ _ _ (⟨#[111, 112, 116, 103, 114, 111, 117, 112]⟩ : ByteArray) [.string (⟨#[111, 112, 116, 103, 114, 111, 117, 112]⟩ : ByteArray)] from rfl) (Reps.none _ _)))); intro v300 w17 ho18 hb hg_ hnew_; clear hg_ hnew_; (first | rw [← Ny299.out] at ho18 | (simp only [Int.reduceToNat] at ho18; rw [← Ny299.out] at ho18)); have n0_ := Aside0.mk (Kd.R_elder' (y10_ HO294.out) (Kd.R_base ho18) hb); have n1_ := Aside0.mk (Kd.R_lower (Kd.R_new' ho18 (Kd.R_lt (y10_ HO294.out))) (below_size y13_)); have n2_ := Aside0.mk (below_step y13_ hb); clear HO294; clear HB; have HO294 := n0_; have HO301 := n1_; have HB := n2_; clear n0_ n1_ n2_; clear hb ho18; obtain ⟨Ao19, co19, eo19⟩ := Kd.R_slice HO301.out; subst eo19) | ((with_reducible refine gate_callee (f := 42) rfl ?_); refine goesL_ (some 15) rfl rfl Tryd.func42 (by kernel_rfl) rfl #[.string a0, .slice Ao19 y299.length co19] rfl y14_ ?_; (with_reducible refine (names_among.calls k a0 _ _ y299 true _ ?side1 ?side2 A12.out).mono ?_); (case side1 => repeat (first | exact (Kd.R_reads' HO301.out).2.2 | (with_reducible refine Kd.C_alloc ?_ _) | (with_reducible refine Kd.C_drewN ?_ _) | (with_reducible refine Kd.C_drew ?_))); (case side2 => exact (Kd.R_reads' HO301.out).2.1); rintro e w' ⟨rfl, ⟨nd, rfl⟩⟩; refine ⟨_, rfl, ?_⟩) | ((with_reducible refine gate_dst (N := 16) rfl ?_); refine Kd.R_lit Kd.string _ 9 ?hg (N := 16) ?hd (xs := ([(⟨#[115, 101, 108, 101, 99, 116]⟩ : ByteArray), (⟨#[116, 101, 109, 112, 108, 97, 116, 101]⟩ : ByteArray)] : List ByteArray)) (inner := [.string (⟨#[115, 101, 108, 101, 99, 116]⟩ : ByteArray), .string (⟨#[116, 101, 109, 112, 108, 97, 116, 101]⟩ : ByteArray)]) (ok := fun _ => True) (okp := fun _ => True) ?hr ?hp (fun _ hk => hk) trivial (Below.refl _ _) (Nat.le_refl _) (by simp) ?_; (case hd => rfl); (case hg => rfl); (case hr => first | (go_simp; done) | (go_simp; rfl)); (case hp => exact (Reps.one (show Kd.M Kd.string _ _ _ (⟨#[115, 101, 108, 101, 99, 116]⟩ : ByteArray) [.string (⟨#[115, 101, 108, 101, 99, 116]⟩ : ByteArray)] from rfl) (Reps.one (show Kd.M Kd.string _ _ _ (⟨#[116, 101, 109, 112, 108, 97, 116, 101]⟩ : ByteArray) [.string (⟨#[116, 101, 109, 112, 108, 97, 116, 101]⟩ : ByteArray)] from rfl) (Reps.none _ _)))); intro v304 w20 ho21 hb hg_ hnew_; clear hg_ hnew_; (first | rw [← Ny303.out] at ho21 | (simp only [Int.reduceToNat] at ho21; rw [← Ny303.out] at ho21)); have n0_ := Aside0.mk (Kd.R_elder' (y10_ HO294.out) (Kd.R_base ho21) hb); have n1_ := Aside0.mk (Kd.R_elder' (y10_ HO301.out) (Kd.R_base ho21) hb); have n2_ := Aside0.mk (Kd.R_lower (Kd.R_new' (Kd.R_new' ho21 (Kd.R_lt (y10_ HO294.out))) (Kd.R_lt (y10_ HO301.out))) (below_size y13_)); have n3_ := Aside0.mk (below_step y13_ hb); clear HO294; clear HO301; clear HB; have HO294 := n0_; have HO301 := n1_; have HO305 := n2_; have HB := n3_; clear n0_ n1_ n2_ n3_; clear hb ho21))
    go_ret
    exact ⟨_, y12_, by (with_reducible repeat (first | apply Kd.R_alloc | apply Kd.R_drewN | apply Kd.R_drew)); exact Kd.R_mono HO305.out (fun _ hk => trivial), y13_⟩
   ·replace c13 := Bool.eq_false_iff.mpr c13
    subst c13
    rw [if_neg (show ¬ (false = true) by decide)] at H
    replace H := Option.bind_eq_some_iff.mp H
    obtain ⟨t306, A220, H⟩ := H
    have A22 := Aside0.mk A220
    clear A220
    by_cases c23 : t306 = true
    ·subst c23
     rw [if_pos rfl] at H
     obtain ⟨y307, hy307⟩ : ∃ y_ : List ByteArray, y_ = (([(⟨#[116, 97, 98, 108, 101]⟩ : ByteArray), (⟨#[116, 101, 109, 112, 108, 97, 116, 101]⟩ : ByteArray)] : List ByteArray)) := ⟨_, rfl⟩
     replace H : (some y307) = some r := by first | (rw [hy307]; with_reducible exact H) | (have H2_ := (Option.bind_some _ _).symm.trans H; rw [hy307]; with_reducible exact H2_) | (have H2_ := (Option.bind_some _ _).symm.trans H; with_reducible exact H2_) | with_reducible exact H | (rw [hy307]; exact H) | exact H
     have Ny307 := Aside0.mk hy307
     clear hy307
     obtain rfl := Option.some.inj H
     go_enter Tryd.func76, Tryd.ntmps76
     go_wp2_with (first | ((with_reducible refine gate_dst (N := 9) rfl ?_); refine Kd.R_lit Kd.string _ 9 ?hg (N := 9) ?hd (xs := ([(⟨#[100, 100]⟩ : ByteArray), (⟨#[100, 116]⟩ : ByteArray)] : List ByteArray)) (inner := [.string (⟨#[100, 100]⟩ : ByteArray), .string (⟨#[100, 116]⟩ : ByteArray)]) (ok := fun _ => True) (okp := fun _ => True) ?hr ?hp (fun _ hk => hk) trivial (Below.refl _ _) (Nat.le_refl _) (by simp) ?_; (case hd => rfl); (case hg => rfl); (case hr => first | (go_simp; done) | (go_simp; rfl)); (case hp => exact (Reps.one (show Kd.M Kd.string _ _ _ (⟨#[100, 100]⟩ : ByteArray) [.string (⟨#[100, 100]⟩ : ByteArray)] from rfl) (Reps.one (show Kd.M Kd.string _ _ _ (⟨#[100, 116]⟩ : ByteArray) [.string (⟨#[100, 116]⟩ : ByteArray)] from rfl) (Reps.none _ _)))); intro v293 w24 ho25 hb hg_ hnew_; clear hg_ hnew_; (first | rw [← Ny292.out] at ho25 | (simp only [Int.reduceToNat] at ho25; rw [← Ny292.out] at ho25)); have n0_ := Aside0.mk (Kd.R_lower ho25 (below_size y13_)); have n1_ := Aside0.mk (below_step y13_ hb); clear HB; have HO294 := n0_; have HB := n1_; clear n0_ n1_; clear hb ho25; obtain ⟨Ao26, co26, eo26⟩ := Kd.R_slice HO294.out; subst eo26) | ((with_reducible refine gate_callee (f := 42) rfl ?_); refine goesL_ (some 10) rfl rfl Tryd.func42 (by kernel_rfl) rfl #[.string a0, .slice Ao26 y292.length co26] rfl y14_ ?_; (with_reducible refine (names_among.calls k a0 _ _ y292 false _ ?side1 ?side2 A5.out).mono ?_); (case side1 => repeat (first | exact (Kd.R_reads' HO294.out).2.2 | (with_reducible refine Kd.C_alloc ?_ _) | (with_reducible refine Kd.C_drewN ?_ _) | (with_reducible refine Kd.C_drew ?_))); (case side2 => exact (Kd.R_reads' HO294.out).2.1); rintro e w' ⟨rfl, ⟨nd, rfl⟩⟩; refine ⟨_, rfl, ?_⟩) | ((with_reducible refine gate_dst (N := 14) rfl ?_); refine Kd.R_lit Kd.string _ 9 ?hg (N := 14) ?hd (xs := ([(⟨#[111, 112, 116, 105, 111, 110]⟩ : ByteArray), (⟨#[111, 112, 116, 103, 114, 111, 117, 112]⟩ : ByteArray)] : List ByteArray)) (inner := [.string (⟨#[111, 112, 116, 105, 111, 110]⟩ : ByteArray), .string (⟨#[111, 112, 116, 103, 114, 111, 117, 112]⟩ : ByteArray)]) (ok := fun _ => True) (okp := fun _ => True) ?hr ?hp (fun _ hk => hk) trivial (Below.refl _ _) (Nat.le_refl _) (by simp) ?_; (case hd => rfl); (case hg => rfl); (case hr => first | (go_simp; done) | (go_simp; rfl)); (case hp => exact (Reps.one (show Kd.M Kd.string _ _ _ (⟨#[111, 112, 116, 105, 111, 110]⟩ : ByteArray) [.string (⟨#[111, 112, 116, 105, 111, 110]⟩ : ByteArray)] from rfl) (Reps.one (show Kd.M Kd.string _ _ _ (⟨#[111, 112, 116, 103, 114, 111, 117, 112]⟩ : ByteArray) [.string (⟨#[111, 112, 116, 103, 114, 111, 117, 112]⟩ : ByteArray)] from rfl) (Reps.none _ _)))); intro v300 w27 ho28 hb hg_ hnew_; clear hg_ hnew_; (first | rw [← Ny299.out] at ho28 | (simp only [Int.reduceToNat] at ho28; rw [← Ny299.out] at ho28)); have n0_ := Aside0.mk (Kd.R_elder' (y10_ HO294.out) (Kd.R_base ho28) hb); have n1_ := Aside0.mk (Kd.R_lower (Kd.R_new' ho28 (Kd.R_lt (y10_ HO294.out))) (below_size y13_)); have n2_ := Aside0.mk (below_step y13_ hb); clear HO294; clear HB; have HO294 := n0_; have HO301 := n1_; have HB := n2_; clear n0_ n1_ n2_; clear hb ho28; obtain ⟨Ao29, co29, eo29⟩ := Kd.R_slice HO301.out; subst eo29) | ((with_reducible refine gate_callee (f := 42) rfl ?_); refine goesL_ (some 15) rfl rfl Tryd.func42 (by kernel_rfl) rfl #[.string a0, .slice Ao29 y299.length co29] rfl y14_ ?_; (with_reducible refine (names_among.calls k a0 _ _ y299 false _ ?side1 ?side2 A12.out).mono ?_); (case side1 => repeat (first | exact (Kd.R_reads' HO301.out).2.2 | (with_reducible refine Kd.C_alloc ?_ _) | (with_reducible refine Kd.C_drewN ?_ _) | (with_reducible refine Kd.C_drew ?_))); (case side2 => exact (Kd.R_reads' HO301.out).2.1); rintro e w' ⟨rfl, ⟨nd, rfl⟩⟩; refine ⟨_, rfl, ?_⟩) | ((with_reducible refine gate_callee (f := 93) rfl ?_); refine goesL_ (some 19) rfl rfl Tryd.func93 (by kernel_rfl) rfl #[.string a0] rfl y14_ ?_; (with_reducible refine (names_table.calls k a0 true _ A22.out).mono ?_); rintro e w30 ⟨rfl, hb⟩; refine ⟨_, rfl, ?_⟩; have n0_ := Aside0.mk (Kd.R_below (y10_ HO294.out) hb); have n1_ := Aside0.mk (Kd.R_below (y10_ HO301.out) hb); have n2_ := Aside0.mk (below_step y13_ hb); clear HO294; clear HO301; clear HB; have HO294 := n0_; have HO301 := n1_; have HB := n2_; clear n0_ n1_ n2_; (try clear hb); (try clear hb2); (try clear hk); (try clear hi)) | ((with_reducible refine gate_dst (N := 20) rfl ?_); refine Kd.R_lit Kd.string _ 9 ?hg (N := 20) ?hd (xs := ([(⟨#[116, 97, 98, 108, 101]⟩ : ByteArray), (⟨#[116, 101, 109, 112, 108, 97, 116, 101]⟩ : ByteArray)] : List ByteArray)) (inner := [.string (⟨#[116, 97, 98, 108, 101]⟩ : ByteArray), .string (⟨#[116, 101, 109, 112, 108, 97, 116, 101]⟩ : ByteArray)]) (ok := fun _ => True) (okp := fun _ => True) ?hr ?hp (fun _ hk => hk) trivial (Below.refl _ _) (Nat.le_refl _) (by simp) ?_; (case hd => rfl); (case hg => rfl); (case hr => first | (go_simp; done) | (go_simp; rfl)); (case hp => exact (Reps.one (show Kd.M Kd.string _ _ _ (⟨#[116, 97, 98, 108, 101]⟩ : ByteArray) [.string (⟨#[116, 97, 98, 108, 101]⟩ : ByteArray)] from rfl) (Reps.one (show Kd.M Kd.string _ _ _ (⟨#[116, 101, 109, 112, 108, 97, 116, 101]⟩ : ByteArray) [.string (⟨#[116, 101, 109, 112, 108, 97, 116, 101]⟩ : ByteArray)] from rfl) (Reps.none _ _)))); intro v308 w31 ho32 hb hg_ hnew_; clear hg_ hnew_; (first | rw [← Ny307.out] at ho32 | (simp only [Int.reduceToNat] at ho32; rw [← Ny307.out] at ho32)); have n0_ := Aside0.mk (Kd.R_elder' (y10_ HO294.out) (Kd.R_base ho32) hb); have n1_ := Aside0.mk (Kd.R_elder' (y10_ HO301.out) (Kd.R_base ho32) hb); have n2_ := Aside0.mk (Kd.R_lower (Kd.R_new' (Kd.R_new' ho32 (Kd.R_lt (y10_ HO294.out))) (Kd.R_lt (y10_ HO301.out))) (below_size y13_)); have n3_ := Aside0.mk (below_step y13_ hb); clear HO294; clear HO301; clear HB; have HO294 := n0_; have HO301 := n1_; have HO309 := n2_; have HB := n3_; clear n0_ n1_ n2_ n3_; clear hb ho32))
     go_ret
     exact ⟨_, y12_, by (with_reducible repeat (first | apply Kd.R_alloc | apply Kd.R_drewN | apply Kd.R_drew)); exact Kd.R_mono HO309.out (fun _ hk => trivial), y13_⟩
    ·replace c23 := Bool.eq_false_iff.mpr c23
     subst c23
     rw [if_neg (show ¬ (false = true) by decide)] at H
     obtain ⟨y310, hy310⟩ : ∃ y_ : List ByteArray, y_ = (([(⟨#[98, 117, 116, 116, 111, 110]⟩ : ByteArray), (⟨#[99, 97, 112, 116, 105, 111, 110]⟩ : ByteArray), (⟨#[116, 97, 98, 108, 101]⟩ : ByteArray), (⟨#[116, 100]⟩ : ByteArray), (⟨#[116, 101, 109, 112, 108, 97, 116, 101]⟩ : ByteArray), (⟨#[116, 104]⟩ : ByteArray)] : List ByteArray)) := ⟨_, rfl⟩
     replace H : (some y310) = some r := by first | (rw [hy310]; with_reducible exact H) | (have H2_ := (Option.bind_some _ _).symm.trans H; rw [hy310]; with_reducible exact H2_) | (have H2_ := (Option.bind_some _ _).symm.trans H; with_reducible exact H2_) | with_reducible exact H | (rw [hy310]; exact H) | exact H
     have Ny310 := Aside0.mk hy310
     clear hy310
     obtain rfl := Option.some.inj H
     go_enter Tryd.func76, Tryd.ntmps76
     go_wp2_with (first | ((with_reducible refine gate_dst (N := 9) rfl ?_); refine Kd.R_lit Kd.string _ 9 ?hg (N := 9) ?hd (xs := ([(⟨#[100, 100]⟩ : ByteArray), (⟨#[100, 116]⟩ : ByteArray)] : List ByteArray)) (inner := [.string (⟨#[100, 100]⟩ : ByteArray), .string (⟨#[100, 116]⟩ : ByteArray)]) (ok := fun _ => True) (okp := fun _ => True) ?hr ?hp (fun _ hk => hk) trivial (Below.refl _ _) (Nat.le_refl _) (by simp) ?_; (case hd => rfl); (case hg => rfl); (case hr => first | (go_simp; done) | (go_simp; rfl)); (case hp => exact (Reps.one (show Kd.M Kd.string _ _ _ (⟨#[100, 100]⟩ : ByteArray) [.string (⟨#[100, 100]⟩ : ByteArray)] from rfl) (Reps.one (show Kd.M Kd.string _ _ _ (⟨#[100, 116]⟩ : ByteArray) [.string (⟨#[100, 116]⟩ : ByteArray)] from rfl) (Reps.none _ _)))); intro v293 w33 ho34 hb hg_ hnew_; clear hg_ hnew_; (first | rw [← Ny292.out] at ho34 | (simp only [Int.reduceToNat] at ho34; rw [← Ny292.out] at ho34)); have n0_ := Aside0.mk (Kd.R_lower ho34 (below_size y13_)); have n1_ := Aside0.mk (below_step y13_ hb); clear HB; have HO294 := n0_; have HB := n1_; clear n0_ n1_; clear hb ho34; obtain ⟨Ao35, co35, eo35⟩ := Kd.R_slice HO294.out; subst eo35) | ((with_reducible refine gate_callee (f := 42) rfl ?_); refine goesL_ (some 10) rfl rfl Tryd.func42 (by kernel_rfl) rfl #[.string a0, .slice Ao35 y292.length co35] rfl y14_ ?_; (with_reducible refine (names_among.calls k a0 _ _ y292 false _ ?side1 ?side2 A5.out).mono ?_); (case side1 => repeat (first | exact (Kd.R_reads' HO294.out).2.2 | (with_reducible refine Kd.C_alloc ?_ _) | (with_reducible refine Kd.C_drewN ?_ _) | (with_reducible refine Kd.C_drew ?_))); (case side2 => exact (Kd.R_reads' HO294.out).2.1); rintro e w' ⟨rfl, ⟨nd, rfl⟩⟩; refine ⟨_, rfl, ?_⟩) | ((with_reducible refine gate_dst (N := 14) rfl ?_); refine Kd.R_lit Kd.string _ 9 ?hg (N := 14) ?hd (xs := ([(⟨#[111, 112, 116, 105, 111, 110]⟩ : ByteArray), (⟨#[111, 112, 116, 103, 114, 111, 117, 112]⟩ : ByteArray)] : List ByteArray)) (inner := [.string (⟨#[111, 112, 116, 105, 111, 110]⟩ : ByteArray), .string (⟨#[111, 112, 116, 103, 114, 111, 117, 112]⟩ : ByteArray)]) (ok := fun _ => True) (okp := fun _ => True) ?hr ?hp (fun _ hk => hk) trivial (Below.refl _ _) (Nat.le_refl _) (by simp) ?_; (case hd => rfl); (case hg => rfl); (case hr => first | (go_simp; done) | (go_simp; rfl)); (case hp => exact (Reps.one (show Kd.M Kd.string _ _ _ (⟨#[111, 112, 116, 105, 111, 110]⟩ : ByteArray) [.string (⟨#[111, 112, 116, 105, 111, 110]⟩ : ByteArray)] from rfl) (Reps.one (show Kd.M Kd.string _ _ _ (⟨#[111, 112, 116, 103, 114, 111, 117, 112]⟩ : ByteArray) [.string (⟨#[111, 112, 116, 103, 114, 111, 117, 112]⟩ : ByteArray)] from rfl) (Reps.none _ _)))); intro v300 w36 ho37 hb hg_ hnew_; clear hg_ hnew_; (first | rw [← Ny299.out] at ho37 | (simp only [Int.reduceToNat] at ho37; rw [← Ny299.out] at ho37)); have n0_ := Aside0.mk (Kd.R_elder' (y10_ HO294.out) (Kd.R_base ho37) hb); have n1_ := Aside0.mk (Kd.R_lower (Kd.R_new' ho37 (Kd.R_lt (y10_ HO294.out))) (below_size y13_)); have n2_ := Aside0.mk (below_step y13_ hb); clear HO294; clear HB; have HO294 := n0_; have HO301 := n1_; have HB := n2_; clear n0_ n1_ n2_; clear hb ho37; obtain ⟨Ao38, co38, eo38⟩ := Kd.R_slice HO301.out; subst eo38) | ((with_reducible refine gate_callee (f := 42) rfl ?_); refine goesL_ (some 15) rfl rfl Tryd.func42 (by kernel_rfl) rfl #[.string a0, .slice Ao38 y299.length co38] rfl y14_ ?_; (with_reducible refine (names_among.calls k a0 _ _ y299 false _ ?side1 ?side2 A12.out).mono ?_); (case side1 => repeat (first | exact (Kd.R_reads' HO301.out).2.2 | (with_reducible refine Kd.C_alloc ?_ _) | (with_reducible refine Kd.C_drewN ?_ _) | (with_reducible refine Kd.C_drew ?_))); (case side2 => exact (Kd.R_reads' HO301.out).2.1); rintro e w' ⟨rfl, ⟨nd, rfl⟩⟩; refine ⟨_, rfl, ?_⟩) | ((with_reducible refine gate_callee (f := 93) rfl ?_); refine goesL_ (some 19) rfl rfl Tryd.func93 (by kernel_rfl) rfl #[.string a0] rfl y14_ ?_; (with_reducible refine (names_table.calls k a0 false _ A22.out).mono ?_); rintro e w39 ⟨rfl, hb⟩; refine ⟨_, rfl, ?_⟩; have n0_ := Aside0.mk (Kd.R_below (y10_ HO294.out) hb); have n1_ := Aside0.mk (Kd.R_below (y10_ HO301.out) hb); have n2_ := Aside0.mk (below_step y13_ hb); clear HO294; clear HO301; clear HB; have HO294 := n0_; have HO301 := n1_; have HB := n2_; clear n0_ n1_ n2_; (try clear hb); (try clear hb2); (try clear hk); (try clear hi)) | ((with_reducible refine gate_dst (N := 21) rfl ?_); refine Kd.R_lit Kd.string _ 9 ?hg (N := 21) ?hd (xs := ([(⟨#[98, 117, 116, 116, 111, 110]⟩ : ByteArray), (⟨#[99, 97, 112, 116, 105, 111, 110]⟩ : ByteArray), (⟨#[116, 97, 98, 108, 101]⟩ : ByteArray), (⟨#[116, 100]⟩ : ByteArray), (⟨#[116, 101, 109, 112, 108, 97, 116, 101]⟩ : ByteArray), (⟨#[116, 104]⟩ : ByteArray)] : List ByteArray)) (inner := [.string (⟨#[98, 117, 116, 116, 111, 110]⟩ : ByteArray), .string (⟨#[99, 97, 112, 116, 105, 111, 110]⟩ : ByteArray), .string (⟨#[116, 97, 98, 108, 101]⟩ : ByteArray), .string (⟨#[116, 100]⟩ : ByteArray), .string (⟨#[116, 101, 109, 112, 108, 97, 116, 101]⟩ : ByteArray), .string (⟨#[116, 104]⟩ : ByteArray)]) (ok := fun _ => True) (okp := fun _ => True) ?hr ?hp (fun _ hk => hk) trivial (Below.refl _ _) (Nat.le_refl _) (by simp) ?_; (case hd => rfl); (case hg => rfl); (case hr => first | (go_simp; done) | (go_simp; rfl)); (case hp => exact (Reps.one (show Kd.M Kd.string _ _ _ (⟨#[98, 117, 116, 116, 111, 110]⟩ : ByteArray) [.string (⟨#[98, 117, 116, 116, 111, 110]⟩ : ByteArray)] from rfl) (Reps.one (show Kd.M Kd.string _ _ _ (⟨#[99, 97, 112, 116, 105, 111, 110]⟩ : ByteArray) [.string (⟨#[99, 97, 112, 116, 105, 111, 110]⟩ : ByteArray)] from rfl) (Reps.one (show Kd.M Kd.string _ _ _ (⟨#[116, 97, 98, 108, 101]⟩ : ByteArray) [.string (⟨#[116, 97, 98, 108, 101]⟩ : ByteArray)] from rfl) (Reps.one (show Kd.M Kd.string _ _ _ (⟨#[116, 100]⟩ : ByteArray) [.string (⟨#[116, 100]⟩ : ByteArray)] from rfl) (Reps.one (show Kd.M Kd.string _ _ _ (⟨#[116, 101, 109, 112, 108, 97, 116, 101]⟩ : ByteArray) [.string (⟨#[116, 101, 109, 112, 108, 97, 116, 101]⟩ : ByteArray)] from rfl) (Reps.one (show Kd.M Kd.string _ _ _ (⟨#[116, 104]⟩ : ByteArray) [.string (⟨#[116, 104]⟩ : ByteArray)] from rfl) (Reps.none _ _)))))))); intro v311 w40 ho41 hb hg_ hnew_; clear hg_ hnew_; (first | rw [← Ny310.out] at ho41 | (simp only [Int.reduceToNat] at ho41; rw [← Ny310.out] at ho41)); have n0_ := Aside0.mk (Kd.R_elder' (y10_ HO294.out) (Kd.R_base ho41) hb); have n1_ := Aside0.mk (Kd.R_elder' (y10_ HO301.out) (Kd.R_base ho41) hb); have n2_ := Aside0.mk (Kd.R_lower (Kd.R_new' (Kd.R_new' ho41 (Kd.R_lt (y10_ HO294.out))) (Kd.R_lt (y10_ HO301.out))) (below_size y13_)); have n3_ := Aside0.mk (below_step y13_ hb); clear HO294; clear HO301; clear HB; have HO294 := n0_; have HO301 := n1_; have HO312 := n2_; have HB := n3_; clear n0_ n1_ n2_ n3_; clear hb ho41))
     go_ret
     exact ⟨_, y12_, by (with_reducible repeat (first | apply Kd.R_alloc | apply Kd.R_drewN | apply Kd.R_drew)); exact Kd.R_mono HO312.out (fun _ hk => trivial), y13_⟩
end Go.Proofs.YtpnhjipaeggcpaaDoor.X
end
section
namespace Go.Proofs.YtpnhjipaeggcpaaDoor.X
open Go.RowKit Go.Proofs.YtpnhjipaeggcpaaDoorW.PrintWords Go.Proofs.YtpnhjipaeggcpaaDoorW.PrintLast Go.Proofs.YtpnhjipaeggcpaaDoorW.PrintMore
attribute [local go_sem] max2_int min2_int max_two min_two max_three min_three max_four min_four
def names_Block.f (k : Nat) (a0 : ByteArray) : Option (Bool) := (names_among.f k a0 (([(⟨#[97, 100, 100, 114, 101, 115, 115]⟩ : ByteArray), (⟨#[97, 114, 116, 105, 99, 108, 101]⟩ : ByteArray), (⟨#[97, 115, 105, 100, 101]⟩ : ByteArray), (⟨#[98, 108, 111, 99, 107, 113, 117, 111, 116, 101]⟩ : ByteArray), (⟨#[99, 101, 110, 116, 101, 114]⟩ : ByteArray), (⟨#[100, 100]⟩ : ByteArray), (⟨#[100, 101, 116, 97, 105, 108, 115]⟩ : ByteArray), (⟨#[100, 105, 97, 108, 111, 103]⟩ : ByteArray), (⟨#[100, 105, 114]⟩ : ByteArray), (⟨#[100, 105, 118]⟩ : ByteArray), (⟨#[100, 108]⟩ : ByteArray), (⟨#[100, 116]⟩ : ByteArray), (⟨#[102, 105, 101, 108, 100, 115, 101, 116]⟩ : ByteArray), (⟨#[102, 105, 103, 99, 97, 112, 116, 105, 111, 110]⟩ : ByteArray), (⟨#[102, 105, 103, 117, 114, 101]⟩ : ByteArray), (⟨#[102, 111, 111, 116, 101, 114]⟩ : ByteArray), (⟨#[102, 111, 114, 109]⟩ : ByteArray), (⟨#[104, 49]⟩ : ByteArray), (⟨#[104, 50]⟩ : ByteArray), (⟨#[104, 51]⟩ : ByteArray), (⟨#[104, 52]⟩ : ByteArray), (⟨#[104, 53]⟩ : ByteArray), (⟨#[104, 54]⟩ : ByteArray), (⟨#[104, 101, 97, 100, 101, 114]⟩ : ByteArray), (⟨#[104, 103, 114, 111, 117, 112]⟩ : ByteArray), (⟨#[104, 114]⟩ : ByteArray), (⟨#[108, 105]⟩ : ByteArray), (⟨#[109, 97, 105, 110]⟩ : ByteArray), (⟨#[109, 101, 110, 117]⟩ : ByteArray), (⟨#[110, 97, 118]⟩ : ByteArray), (⟨#[111, 108]⟩ : ByteArray), (⟨#[112]⟩ : ByteArray), (⟨#[112, 114, 101]⟩ : ByteArray), (⟨#[115, 101, 99, 116, 105, 111, 110]⟩ : ByteArray), (⟨#[115, 117, 109, 109, 97, 114, 121]⟩ : ByteArray), (⟨#[116, 97, 98, 108, 101]⟩ : ByteArray), (⟨#[117, 108]⟩ : ByteArray), (⟨#[120, 109, 112]⟩ : ByteArray)] : List ByteArray))).bind fun t316 => (some t316)
set_option maxHeartbeats 8000000 in
set_option maxRecDepth 100000 in
theorem names_Block.calls (k : Nat) (a0 : ByteArray) (r : Bool) (w : World) (h : names_Block.f k a0 = some r) :
  Calls Tryd.prog 94 #[.string a0] w fun e w' => e = .returned (.bool r) ∧ Below w.heap.size w w' := by
 have HB := Aside0.mk (Below.refl w.heap.size w)
 have H : ((names_among.f k a0 (([(⟨#[97, 100, 100, 114, 101, 115, 115]⟩ : ByteArray), (⟨#[97, 114, 116, 105, 99, 108, 101]⟩ : ByteArray), (⟨#[97, 115, 105, 100, 101]⟩ : ByteArray), (⟨#[98, 108, 111, 99, 107, 113, 117, 111, 116, 101]⟩ : ByteArray), (⟨#[99, 101, 110, 116, 101, 114]⟩ : ByteArray), (⟨#[100, 100]⟩ : ByteArray), (⟨#[100, 101, 116, 97, 105, 108, 115]⟩ : ByteArray), (⟨#[100, 105, 97, 108, 111, 103]⟩ : ByteArray), (⟨#[100, 105, 114]⟩ : ByteArray), (⟨#[100, 105, 118]⟩ : ByteArray), (⟨#[100, 108]⟩ : ByteArray), (⟨#[100, 116]⟩ : ByteArray), (⟨#[102, 105, 101, 108, 100, 115, 101, 116]⟩ : ByteArray), (⟨#[102, 105, 103, 99, 97, 112, 116, 105, 111, 110]⟩ : ByteArray), (⟨#[102, 105, 103, 117, 114, 101]⟩ : ByteArray), (⟨#[102, 111, 111, 116, 101, 114]⟩ : ByteArray), (⟨#[102, 111, 114, 109]⟩ : ByteArray), (⟨#[104, 49]⟩ : ByteArray), (⟨#[104, 50]⟩ : ByteArray), (⟨#[104, 51]⟩ : ByteArray), (⟨#[104, 52]⟩ : ByteArray), (⟨#[104, 53]⟩ : ByteArray), (⟨#[104, 54]⟩ : ByteArray), (⟨#[104, 101, 97, 100, 101, 114]⟩ : ByteArray), (⟨#[104, 103, 114, 111, 117, 112]⟩ : ByteArray), (⟨#[104, 114]⟩ : ByteArray), (⟨#[108, 105]⟩ : ByteArray), (⟨#[109, 97, 105, 110]⟩ : ByteArray), (⟨#[109, 101, 110, 117]⟩ : ByteArray), (⟨#[110, 97, 118]⟩ : ByteArray), (⟨#[111, 108]⟩ : ByteArray), (⟨#[112]⟩ : ByteArray), (⟨#[112, 114, 101]⟩ : ByteArray), (⟨#[115, 101, 99, 116, 105, 111, 110]⟩ : ByteArray), (⟨#[115, 117, 109, 109, 97, 114, 121]⟩ : ByteArray), (⟨#[116, 97, 98, 108, 101]⟩ : ByteArray), (⟨#[117, 108]⟩ : ByteArray), (⟨#[120, 109, 112]⟩ : ByteArray)] : List ByteArray))).bind fun t316 => (some t316)) = some r := h
 clear h
 obtain ⟨y313, hy313⟩ : ∃ y_ : List ByteArray, y_ = (([(⟨#[97, 100, 100, 114, 101, 115, 115]⟩ : ByteArray), (⟨#[97, 114, 116, 105, 99, 108, 101]⟩ : ByteArray), (⟨#[97, 115, 105, 100, 101]⟩ : ByteArray), (⟨#[98, 108, 111, 99, 107, 113, 117, 111, 116, 101]⟩ : ByteArray), (⟨#[99, 101, 110, 116, 101, 114]⟩ : ByteArray), (⟨#[100, 100]⟩ : ByteArray), (⟨#[100, 101, 116, 97, 105, 108, 115]⟩ : ByteArray), (⟨#[100, 105, 97, 108, 111, 103]⟩ : ByteArray), (⟨#[100, 105, 114]⟩ : ByteArray), (⟨#[100, 105, 118]⟩ : ByteArray), (⟨#[100, 108]⟩ : ByteArray), (⟨#[100, 116]⟩ : ByteArray), (⟨#[102, 105, 101, 108, 100, 115, 101, 116]⟩ : ByteArray), (⟨#[102, 105, 103, 99, 97, 112, 116, 105, 111, 110]⟩ : ByteArray), (⟨#[102, 105, 103, 117, 114, 101]⟩ : ByteArray), (⟨#[102, 111, 111, 116, 101, 114]⟩ : ByteArray), (⟨#[102, 111, 114, 109]⟩ : ByteArray), (⟨#[104, 49]⟩ : ByteArray), (⟨#[104, 50]⟩ : ByteArray), (⟨#[104, 51]⟩ : ByteArray), (⟨#[104, 52]⟩ : ByteArray), (⟨#[104, 53]⟩ : ByteArray), (⟨#[104, 54]⟩ : ByteArray), (⟨#[104, 101, 97, 100, 101, 114]⟩ : ByteArray), (⟨#[104, 103, 114, 111, 117, 112]⟩ : ByteArray), (⟨#[104, 114]⟩ : ByteArray), (⟨#[108, 105]⟩ : ByteArray), (⟨#[109, 97, 105, 110]⟩ : ByteArray), (⟨#[109, 101, 110, 117]⟩ : ByteArray), (⟨#[110, 97, 118]⟩ : ByteArray), (⟨#[111, 108]⟩ : ByteArray), (⟨#[112]⟩ : ByteArray), (⟨#[112, 114, 101]⟩ : ByteArray), (⟨#[115, 101, 99, 116, 105, 111, 110]⟩ : ByteArray), (⟨#[115, 117, 109, 109, 97, 114, 121]⟩ : ByteArray), (⟨#[116, 97, 98, 108, 101]⟩ : ByteArray), (⟨#[117, 108]⟩ : ByteArray), (⟨#[120, 109, 112]⟩ : ByteArray)] : List ByteArray)) := ⟨_, rfl⟩
 replace H : ((names_among.f k a0 y313).bind fun t316 => (some t316)) = some r := by first | (rw [hy313]; with_reducible exact H) | (have H2_ := (Option.bind_some _ _).symm.trans H; rw [hy313]; with_reducible exact H2_) | (have H2_ := (Option.bind_some _ _).symm.trans H; with_reducible exact H2_) | with_reducible exact H | (rw [hy313]; exact H) | exact H
 have Ny313 := Aside0.mk hy313
 clear hy313
 replace H := Option.bind_eq_some_iff.mp H
 obtain ⟨t316, A20, H⟩ := H
 have A2 := Aside0.mk A20
 clear A20
 obtain rfl := Option.some.inj H
 go_enter Tryd.func94, Tryd.ntmps94
 go_wp2_with (first | ((with_reducible refine gate_dst (N := 4) rfl ?_); refine Kd.R_lit Kd.string _ 9 ?hg (N := 4) ?hd (xs := ([(⟨#[97, 100, 100, 114, 101, 115, 115]⟩ : ByteArray), (⟨#[97, 114, 116, 105, 99, 108, 101]⟩ : ByteArray), (⟨#[97, 115, 105, 100, 101]⟩ : ByteArray), (⟨#[98, 108, 111, 99, 107, 113, 117, 111, 116, 101]⟩ : ByteArray), (⟨#[99, 101, 110, 116, 101, 114]⟩ : ByteArray), (⟨#[100, 100]⟩ : ByteArray), (⟨#[100, 101, 116, 97, 105, 108, 115]⟩ : ByteArray), (⟨#[100, 105, 97, 108, 111, 103]⟩ : ByteArray), (⟨#[100, 105, 114]⟩ : ByteArray), (⟨#[100, 105, 118]⟩ : ByteArray), (⟨#[100, 108]⟩ : ByteArray), (⟨#[100, 116]⟩ : ByteArray), (⟨#[102, 105, 101, 108, 100, 115, 101, 116]⟩ : ByteArray), (⟨#[102, 105, 103, 99, 97, 112, 116, 105, 111, 110]⟩ : ByteArray), (⟨#[102, 105, 103, 117, 114, 101]⟩ : ByteArray), (⟨#[102, 111, 111, 116, 101, 114]⟩ : ByteArray), (⟨#[102, 111, 114, 109]⟩ : ByteArray), (⟨#[104, 49]⟩ : ByteArray), (⟨#[104, 50]⟩ : ByteArray), (⟨#[104, 51]⟩ : ByteArray), (⟨#[104, 52]⟩ : ByteArray), (⟨#[104, 53]⟩ : ByteArray), (⟨#[104, 54]⟩ : ByteArray), (⟨#[104, 101, 97, 100, 101, 114]⟩ : ByteArray), (⟨#[104, 103, 114, 111, 117, 112]⟩ : ByteArray), (⟨#[104, 114]⟩ : ByteArray), (⟨#[108, 105]⟩ : ByteArray), (⟨#[109, 97, 105, 110]⟩ : ByteArray), (⟨#[109, 101, 110, 117]⟩ : ByteArray), (⟨#[110, 97, 118]⟩ : ByteArray), (⟨#[111, 108]⟩ : ByteArray), (⟨#[112]⟩ : ByteArray), (⟨#[112, 114, 101]⟩ : ByteArray), (⟨#[115, 101, 99, 116, 105, 111, 110]⟩ : ByteArray), (⟨#[115, 117, 109, 109, 97, 114, 121]⟩ : ByteArray), (⟨#[116, 97, 98, 108, 101]⟩ : ByteArray), (⟨#[117, 108]⟩ : ByteArray), (⟨#[120, 109, 112]⟩ : ByteArray)] : List ByteArray)) (inner := [.string (⟨#[97, 100, 100, 114, 101, 115, 115]⟩ : ByteArray), .string (⟨#[97, 114, 116, 105, 99, 108, 101]⟩ : ByteArray), .string (⟨#[97, 115, 105, 100, 101]⟩ : ByteArray), .string (⟨#[98, 108, 111, 99, 107, 113, 117, 111, 116, 101]⟩ : ByteArray), .string (⟨#[99, 101, 110, 116, 101, 114]⟩ : ByteArray), .string (⟨#[100, 100]⟩ : ByteArray), .string (⟨#[100, 101, 116, 97, 105, 108, 115]⟩ : ByteArray), .string (⟨#[100, 105, 97, 108, 111, 103]⟩ : ByteArray), .string (⟨#[100, 105, 114]⟩ : ByteArray), .string (⟨#[100, 105, 118]⟩ : ByteArray), .string (⟨#[100, 108]⟩ : ByteArray), .string (⟨#[100, 116]⟩ : ByteArray), .string (⟨#[102, 105, 101, 108, 100, 115, 101, 116]⟩ : ByteArray), .string (⟨#[102, 105, 103, 99, 97, 112, 116, 105, 111, 110]⟩ : ByteArray), .string (⟨#[102, 105, 103, 117, 114, 101]⟩ : ByteArray), .string (⟨#[102, 111, 111, 116, 101, 114]⟩ : ByteArray), .string (⟨#[102, 111, 114, 109]⟩ : ByteArray), .string (⟨#[104, 49]⟩ : ByteArray), .string (⟨#[104, 50]⟩ : ByteArray), .string (⟨#[104, 51]⟩ : ByteArray), .string (⟨#[104, 52]⟩ : ByteArray), .string (⟨#[104, 53]⟩ : ByteArray), .string (⟨#[104, 54]⟩ : ByteArray), .string (⟨#[104, 101, 97, 100, 101, 114]⟩ : ByteArray), .string (⟨#[104, 103, 114, 111, 117, 112]⟩ : ByteArray), .string (⟨#[104, 114]⟩ : ByteArray), .string (⟨#[108, 105]⟩ : ByteArray), .string (⟨#[109, 97, 105, 110]⟩ : ByteArray), .string (⟨#[109, 101, 110, 117]⟩ : ByteArray), .string (⟨#[110, 97, 118]⟩ : ByteArray), .string (⟨#[111, 108]⟩ : ByteArray), .string (⟨#[112]⟩ : ByteArray), .string (⟨#[112, 114, 101]⟩ : ByteArray), .string (⟨#[115, 101, 99, 116, 105, 111, 110]⟩ : ByteArray), .string (⟨#[115, 117, 109, 109, 97, 114, 121]⟩ : ByteArray), .string (⟨#[116, 97, 98, 108, 101]⟩ : ByteArray), .string (⟨#[117, 108]⟩ : ByteArray), .string (⟨#[120, 109, 112]⟩ : ByteArray)]) (ok := fun _ => True) (okp := fun _ => True) ?hr ?hp (fun _ hk => hk) trivial (Below.refl _ _) (Nat.le_refl _) (by simp) ?_; (case hd => rfl); (case hg => rfl); (case hr => first | (go_simp; done) | (go_simp; rfl)); (case hp => exact (Reps.one (show Kd.M Kd.string _ _ _ (⟨#[97, 100, 100, 114, 101, 115, 115]⟩ : ByteArray) [.string (⟨#[97, 100, 100, 114, 101, 115, 115]⟩ : ByteArray)] from rfl) (Reps.one (show Kd.M Kd.string _ _ _ (⟨#[97, 114, 116, 105, 99, 108, 101]⟩ : ByteArray) [.string (⟨#[97, 114, 116, 105, 99, 108, 101]⟩ : ByteArray)] from rfl) (Reps.one (show Kd.M Kd.string _ _ _ (⟨#[97, 115, 105, 100, 101]⟩ : ByteArray) [.string (⟨#[97, 115, 105, 100, 101]⟩ : ByteArray)] from rfl) (Reps.one (show Kd.M Kd.string _ _ _ (⟨#[98, 108, 111, 99, 107, 113, 117, 111, 116, 101]⟩ : ByteArray) [.string (⟨#[98, 108, 111, 99, 107, 113, 117, 111, 116, 101]⟩ : ByteArray)] from rfl) (Reps.one (show Kd.M Kd.string _ _ _ (⟨#[99, 101, 110, 116, 101, 114]⟩ : ByteArray) [.string (⟨#[99, 101, 110, 116, 101, 114]⟩ : ByteArray)] from rfl) (Reps.one (show Kd.M Kd.string _ _ _ (⟨#[100, 100]⟩ : ByteArray) [.string (⟨#[100, 100]⟩ : ByteArray)] from rfl) (Reps.one (show Kd.M Kd.string _ _ _ (⟨#[100, 101, 116, 97, 105, 108, 115]⟩ : ByteArray) [.string (⟨#[100, 101, 116, 97, 105, 108, 115]⟩ : ByteArray)] from rfl) (Reps.one (show Kd.M Kd.string _ _ _ (⟨#[100, 105, 97, 108, 111, 103]⟩ : ByteArray) [.string (⟨#[100, 105, 97, 108, 111, 103]⟩ : ByteArray)] from rfl) (Reps.one (show Kd.M Kd.string _ _ _ (⟨#[100, 105, 114]⟩ : ByteArray) [.string (⟨#[100, 105, 114]⟩ : ByteArray)] from rfl) (Reps.one (show Kd.M Kd.string _ _ _ (⟨#[100, 105, 118]⟩ : ByteArray) [.string (⟨#[100, 105, 118]⟩ : ByteArray)] from rfl) (Reps.one (show Kd.M Kd.string _ _ _ (⟨#[100, 108]⟩ : ByteArray) [.string (⟨#[100, 108]⟩ : ByteArray)] from rfl) (Reps.one (show Kd.M Kd.string _ _ _ (⟨#[100, 116]⟩ : ByteArray) [.string (⟨#[100, 116]⟩ : ByteArray)] from rfl) (Reps.one (show Kd.M Kd.string _ _ _ (⟨#[102, 105, 101, 108, 100, 115, 101, 116]⟩ : ByteArray) [.string (⟨#[102, 105, 101, 108, 100, 115, 101, 116]⟩ : ByteArray)] from rfl) (Reps.one (show Kd.M Kd.string _ _ _ (⟨#[102, 105, 103, 99, 97, 112, 116, 105, 111, 110]⟩ : ByteArray) [.string (⟨#[102, 105, 103, 99, 97, 112, 116, 105, 111, 110]⟩ : ByteArray)] from rfl) (Reps.one (show Kd.M Kd.string _ _ _ (⟨#[102, 105, 103, 117, 114, 101]⟩ : ByteArray) [.string (⟨#[102, 105, 103, 117, 114, 101]⟩ : ByteArray)] from rfl) (Reps.one (show Kd.M Kd.string _ _ _ (⟨#[102, 111, 111, 116, 101, 114]⟩ : ByteArray) [.string (⟨#[102, 111, 111, 116, 101, 114]⟩ : ByteArray)] from rfl) (Reps.one (show Kd.M Kd.string _ _ _ (⟨#[102, 111, 114, 109]⟩ : ByteArray) [.string (⟨#[102, 111, 114, 109]⟩ : ByteArray)] from rfl) (Reps.one (show Kd.M Kd.string _ _ _ (⟨#[104, 49]⟩ : ByteArray) [.string (⟨#[104, 49]⟩ : ByteArray)] from rfl) (Reps.one (show Kd.M Kd.string _ _ _ (⟨#[104, 50]⟩ : ByteArray) [.string (⟨#[104, 50]⟩ : ByteArray)] from rfl) (Reps.one (show Kd.M Kd.string _ _ _ (⟨#[104, 51]⟩ : ByteArray) [.string (⟨#[104, 51]⟩ : ByteArray)] from rfl) (Reps.one (show Kd.M Kd.string _ _ _ (⟨#[104, 52]⟩ : ByteArray) [.string (⟨#[104, 52]⟩ : ByteArray)] from rfl) (Reps.one (show Kd.M Kd.string _ _ _ (⟨#[104, 53]⟩ : ByteArray) [.string (⟨#[104, 53]⟩ : ByteArray)] from rfl) (Reps.one (show Kd.M Kd.string _ _ _ (⟨#[104, 54]⟩ : ByteArray) [.string (⟨#[104, 54]⟩ : ByteArray)] from rfl) (Reps.one (show Kd.M Kd.string _ _ _ (⟨#[104, 101, 97, 100, 101, 114]⟩ : ByteArray) [.string (⟨#[104, 101, 97, 100, 101, 114]⟩ : ByteArray)] from rfl) (Reps.one (show Kd.M Kd.string _ _ _ (⟨#[104, 103, 114, 111, 117, 112]⟩ : ByteArray) [.string (⟨#[104, 103, 114, 111, 117, 112]⟩ : ByteArray)] from rfl) (Reps.one (show Kd.M Kd.string _ _ _ (⟨#[104, 114]⟩ : ByteArray) [.string (⟨#[104, 114]⟩ : ByteArray)] from rfl) (Reps.one (show Kd.M Kd.string _ _ _ (⟨#[108, 105]⟩ : ByteArray) [.string (⟨#[108, 105]⟩ : ByteArray)] from rfl) (Reps.one (show Kd.M Kd.string _ _ _ (⟨#[109, 97, 105, 110]⟩ : ByteArray) [.string (⟨#[109, 97, 105, 110]⟩ : ByteArray)] from rfl) (Reps.one (show Kd.M Kd.string _ _ _ (⟨#[109, 101, 110, 117]⟩ : ByteArray) [.string (⟨#[109, 101, 110, 117]⟩ : ByteArray)] from rfl) (Reps.one (show Kd.M Kd.string _ _ _ (⟨#[110, 97, 118]⟩ : ByteArray) [.string (⟨#[110, 97, 118]⟩ : ByteArray)] from rfl) (Reps.one (show Kd.M Kd.string _ _ _ (⟨#[111, 108]⟩ : ByteArray) [.string (⟨#[111, 108]⟩ : ByteArray)] from rfl) (Reps.one (show Kd.M Kd.string _ _ _ (⟨#[112]⟩ : ByteArray) [.string (⟨#[112]⟩ : ByteArray)] from rfl) (Reps.one (show Kd.M Kd.string _ _ _ (⟨#[112, 114, 101]⟩ : ByteArray) [.string (⟨#[112, 114, 101]⟩ : ByteArray)] from rfl) (Reps.one (show Kd.M Kd.string _ _ _ (⟨#[115, 101, 99, 116, 105, 111, 110]⟩ : ByteArray) [.string (⟨#[115, 101, 99, 116, 105, 111, 110]⟩ : ByteArray)] from rfl) (Reps.one (show Kd.M Kd.string _ _ _ (⟨#[115, 117, 109, 109, 97, 114, 121]⟩ : ByteArray) [.string (⟨#[115, 117, 109, 109, 97, 114, 121]⟩ : ByteArray)] from rfl) (Reps.one (show Kd.M Kd.string _ _ _ (⟨#[116, 97, 98, 108, 101]⟩ : ByteArray) [.string (⟨#[116, 97, 98, 108, 101]⟩ : ByteArray)] from rfl) (Reps.one (show Kd.M Kd.string _ _ _ (⟨#[117, 108]⟩ : ByteArray) [.string (⟨#[117, 108]⟩ : ByteArray)] from rfl) (Reps.one (show Kd.M Kd.string _ _ _ (⟨#[120, 109, 112]⟩ : ByteArray) [.string (⟨#[120, 109, 112]⟩ : ByteArray)] from rfl) (Reps.none _ _)))))))))))))))))))))))))))))))))))))))); intro v314 w3 ho4 hb hg_ hnew_; clear hg_ hnew_; (first | rw [← Ny313.out] at ho4 | (simp only [Int.reduceToNat] at ho4; rw [← Ny313.out] at ho4)); have n0_ := Aside0.mk (Kd.R_lower ho4 (below_size y13_)); have n1_ := Aside0.mk (below_step y13_ hb); clear HB; have HO315 := n0_; have HB := n1_; clear n0_ n1_; clear hb ho4; obtain ⟨Ao5, co5, eo5⟩ := Kd.R_slice HO315.out; subst eo5) | ((with_reducible refine gate_callee (f := 42) rfl ?_); refine goesL_ (some 5) rfl rfl Tryd.func42 (by kernel_rfl) rfl #[.string a0, .slice Ao5 y313.length co5] rfl y14_ ?_; (with_reducible refine (names_among.calls k a0 _ _ y313 t316 _ ?side1 ?side2 A2.out).mono ?_); (case side1 => repeat (first | exact (Kd.R_reads' HO315.out).2.2 | (with_reducible refine Kd.C_alloc ?_ _) | (with_reducible refine Kd.C_drewN ?_ _) | (with_reducible refine Kd.C_drew ?_))); (case side2 => exact (Kd.R_reads' HO315.out).2.1); rintro e w' ⟨rfl, ⟨nd, rfl⟩⟩; refine ⟨_, rfl, ?_⟩))
 go_ret
 exact ⟨y12_, y13_⟩
end Go.Proofs.YtpnhjipaeggcpaaDoor.X
end
section
namespace Go.Proofs.YtpnhjipaeggcpaaDoor.X
open Go.RowKit Go.Proofs.YtpnhjipaeggcpaaDoorW.PrintWords Go.Proofs.YtpnhjipaeggcpaaDoorW.PrintLast Go.Proofs.YtpnhjipaeggcpaaDoorW.PrintMore
attribute [local go_sem] max2_int min2_int max_two min_two max_three min_three max_four min_four
def names_Closes.j0 : Nat → ByteArray → ByteArray → Bool → Option (List ByteArray)
 | 0, _, _, _ => none
 | k + 1, x0, x3, x4 => if x4 = true then (some (([x0] : List ByteArray))) else (if x3.toList = ([100, 100] : List UInt8) then (some (([(⟨#[100, 100]⟩ : ByteArray), (⟨#[100, 116]⟩ : ByteArray)] : List ByteArray))) else (if x3.toList = ([100, 116] : List UInt8) then (some (([(⟨#[100, 100]⟩ : ByteArray), (⟨#[100, 116]⟩ : ByteArray)] : List ByteArray))) else (if x3.toList = ([111, 112, 116, 103, 114, 111, 117, 112] : List UInt8) then (some (([(⟨#[111, 112, 116, 103, 114, 111, 117, 112]⟩ : ByteArray), (⟨#[111, 112, 116, 105, 111, 110]⟩ : ByteArray)] : List ByteArray))) else (if x3.toList = ([116, 114] : List UInt8) then (some (([(⟨#[116, 100]⟩ : ByteArray), (⟨#[116, 104]⟩ : ByteArray), (⟨#[116, 114]⟩ : ByteArray)] : List ByteArray))) else (if x3.toList = ([116, 100] : List UInt8) then (some (([(⟨#[116, 100]⟩ : ByteArray), (⟨#[116, 104]⟩ : ByteArray)] : List ByteArray))) else (if x3.toList = ([116, 104] : List UInt8) then (some (([(⟨#[116, 100]⟩ : ByteArray), (⟨#[116, 104]⟩ : ByteArray)] : List ByteArray))) else ((names_table.f k x0).bind fun t338 => (if t338 = true then (some (([(⟨#[116, 98, 111, 100, 121]⟩ : ByteArray), (⟨#[116, 100]⟩ : ByteArray), (⟨#[116, 102, 111, 111, 116]⟩ : ByteArray), (⟨#[116, 104]⟩ : ByteArray), (⟨#[116, 104, 101, 97, 100]⟩ : ByteArray), (⟨#[116, 114]⟩ : ByteArray)] : List ByteArray))) else ((names_Block.f k x0).bind fun t342 => (if t342 = true then (some (([(⟨#[112]⟩ : ByteArray)] : List ByteArray))) else (some ([] : List ByteArray))))))))))))
def names_Closes.f (k : Nat) (a0 : ByteArray) : Option (List ByteArray) := if a0.toList = ([108, 105] : List UInt8) then (names_Closes.j0 k a0 a0 (a0.toList == ([108, 105] : List UInt8))) else (names_Closes.j0 k a0 a0 (a0.toList == ([111, 112, 116, 105, 111, 110] : List UInt8)))
set_option maxHeartbeats 8000000 in
set_option maxRecDepth 100000 in
theorem names_Closes.calls (k : Nat) (a0 : ByteArray) (r : List ByteArray) (w : World) (h : names_Closes.f k a0 = some r) :
  Calls Tryd.prog 77 #[.string a0] w fun e w' => ∃ v0_ : Value, e = .returned (v0_) ∧ Kd.R Kd.string 9 w' w.heap.size (fun _ => True) v0_ r ∧ Below w.heap.size w w' := by
 have HB := Aside0.mk (Below.refl w.heap.size w)
 have H : (if a0.toList = ([108, 105] : List UInt8) then (names_Closes.j0 k a0 a0 (a0.toList == ([108, 105] : List UInt8))) else (names_Closes.j0 k a0 a0 (a0.toList == ([111, 112, 116, 105, 111, 110] : List UInt8)))) = some r := h
 clear h
 have HC2 := Aside0.mk H
 clear H
 go_enter Tryd.func77, Tryd.ntmps77
 go_upto_if 4 with (fail)
 go_cut [4] (fun v4 wc => ∃ (kq : Nat) (x4_1 : Bool), v4 = .bool x4_1 ∧ Aside0 (names_Closes.j0 kq a0 a0 x4_1 = some r) ∧ Aside0 (kq ≤ k) ∧ Aside0 (Below w.heap.size w wc))
 case first =>
  have H := HC2.out
  clear HC2
  by_cases c3 : a0.toList = ([108, 105] : List UInt8)
  ·rw [if_pos c3] at H
   have c3b0 : (a0.toList == ([108, 105] : List UInt8)) = true := beq_iff_eq.mpr c3
   have c3b1 : (a0.toList != ([108, 105] : List UInt8)) = false := bne_eq_false_iff_eq.mpr c3
   clear c3
   (first | rw [c3b0] | (simp only [i64_w, i32_w]; rw [c3b0]) | skip)
   have H' := Aside0.mk H
   clear H
   go_wp2
   go_meet
   case rel => exact ⟨_, ((a0.toList == ([108, 105] : List UInt8))), y4_, H', ⟨y1_⟩, ⟨y13_⟩⟩
  ·rw [if_neg c3] at H
   have c3b0 : (a0.toList == ([108, 105] : List UInt8)) = false := beq_eq_false_iff_ne.mpr c3
   have c3b1 : (a0.toList != ([108, 105] : List UInt8)) = true := bne_iff_ne.mpr c3
   (first | rw [c3b0] | (simp only [i64_w, i32_w]; rw [c3b0]) | skip)
   have H' := Aside0.mk H
   clear H
   go_wp2
   go_meet
   case rel => exact ⟨_, ((a0.toList == ([111, 112, 116, 105, 111, 110] : List UInt8))), y4_, H', ⟨y1_⟩, ⟨y13_⟩⟩
 case rest =>
  clear HC2
  try clear p2
  try clear c3
  try clear c3b0
  try clear c3b1
  obtain ⟨kq, x4_1, rfl, HA, HJ1, HB⟩ := hcut
  cases kq with
  | zero => exact absurd HA.out (by simp [names_Closes.j0])
  | succ kj1 =>
   have H := HA.out
   clear HA
   simp only [names_Closes.j0] at H
   by_cases c4 : x4_1 = true
   ·subst c4
    rw [if_pos rfl] at H
    obtain ⟨y317, hy317⟩ : ∃ y_ : List ByteArray, y_ = (([a0] : List ByteArray)) := ⟨_, rfl⟩
    replace H : (some y317) = some r := by first | (rw [hy317]; with_reducible exact H) | (have H2_ := (Option.bind_some _ _).symm.trans H; rw [hy317]; with_reducible exact H2_) | (have H2_ := (Option.bind_some _ _).symm.trans H; with_reducible exact H2_) | with_reducible exact H | (rw [hy317]; exact H) | exact H
    have Ny317 := Aside0.mk hy317
    clear hy317
    obtain rfl := Option.some.inj H
    go_wp2_with (first | ((with_reducible refine gate_dst (N := 19) rfl ?_); refine Kd.R_lit Kd.string _ 9 ?hg (N := 19) ?hd (xs := ([a0] : List ByteArray)) (inner := [.string a0]) (ok := fun _ => True) (okp := fun _ => True) ?hr ?hp (fun _ hk => hk) trivial (Below.refl _ _) (Nat.le_refl _) (by simp) ?_; (case hd => rfl); (case hg => rfl); (case hr => first | (go_simp; done) | (go_simp; rfl)); (case hp => exact (Reps.one (show Kd.M Kd.string _ _ _ a0 [.string a0] from rfl) (Reps.none _ _))); intro v318 w5 ho6 hb hg_ hnew_; clear hg_ hnew_; (first | rw [← Ny317.out] at ho6 | (simp only [Int.reduceToNat] at ho6; rw [← Ny317.out] at ho6)); have n0_ := Aside0.mk (Kd.R_lower ho6 (below_size y13_)); have n1_ := Aside0.mk (below_step y13_ hb); clear HB; have HO319 := n0_; have HB := n1_; clear n0_ n1_; clear hb ho6))
    go_ret
    exact ⟨_, y12_, by (with_reducible repeat (first | apply Kd.R_alloc | apply Kd.R_drewN | apply Kd.R_drew)); exact HO319.out, y13_⟩
   ·replace c4 := Bool.eq_false_iff.mpr c4
    subst c4
    rw [if_neg (show ¬ (false = true) by decide)] at H
    by_cases c7 : a0.toList = ([100, 100] : List UInt8)
    ·rw [if_pos c7] at H
     have c7b0 : (a0.toList == ([100, 100] : List UInt8)) = true := beq_iff_eq.mpr c7
     have c7b1 : (a0.toList != ([100, 100] : List UInt8)) = false := bne_eq_false_iff_eq.mpr c7
     clear c7
     obtain ⟨y320, hy320⟩ : ∃ y_ : List ByteArray, y_ = (([(⟨#[100, 100]⟩ : ByteArray), (⟨#[100, 116]⟩ : ByteArray)] : List ByteArray)) := ⟨_, rfl⟩
     replace H : (some y320) = some r := by first | (rw [hy320]; with_reducible exact H) | (have H2_ := (Option.bind_some _ _).symm.trans H; rw [hy320]; with_reducible exact H2_) | (have H2_ := (Option.bind_some _ _).symm.trans H; with_reducible exact H2_) | with_reducible exact H | (rw [hy320]; exact H) | exact H
     have Ny320 := Aside0.mk hy320
     clear hy320
     obtain rfl := Option.some.inj H
     go_wp2_with (first | ((with_reducible refine gate_dst (N := 20) rfl ?_); refine Kd.R_lit Kd.string _ 9 ?hg (N := 20) ?hd (xs := ([(⟨#[100, 100]⟩ : ByteArray), (⟨#[100, 116]⟩ : ByteArray)] : List ByteArray)) (inner := [.string (⟨#[100, 100]⟩ : ByteArray), .string (⟨#[100, 116]⟩ : ByteArray)]) (ok := fun _ => True) (okp := fun _ => True) ?hr ?hp (fun _ hk => hk) trivial (Below.refl _ _) (Nat.le_refl _) (by simp) ?_; (case hd => rfl); (case hg => rfl); (case hr => first | (go_simp; done) | (go_simp; rfl)); (case hp => exact (Reps.one (show Kd.M Kd.string _ _ _ (⟨#[100, 100]⟩ : ByteArray) [.string (⟨#[100, 100]⟩ : ByteArray)] from rfl) (Reps.one (show Kd.M Kd.string _ _ _ (⟨#[100, 116]⟩ : ByteArray) [.string (⟨#[100, 116]⟩ : ByteArray)] from rfl) (Reps.none _ _)))); intro v321 w8 ho9 hb hg_ hnew_; clear hg_ hnew_; (first | rw [← Ny320.out] at ho9 | (simp only [Int.reduceToNat] at ho9; rw [← Ny320.out] at ho9)); have n0_ := Aside0.mk (Kd.R_lower ho9 (below_size y13_)); have n1_ := Aside0.mk (below_step y13_ hb); clear HB; have HO322 := n0_; have HB := n1_; clear n0_ n1_; clear hb ho9))
     go_ret
     exact ⟨_, y12_, by (with_reducible repeat (first | apply Kd.R_alloc | apply Kd.R_drewN | apply Kd.R_drew)); exact HO322.out, y13_⟩
    ·rw [if_neg c7] at H
     have c7b0 : (a0.toList == ([100, 100] : List UInt8)) = false := beq_eq_false_iff_ne.mpr c7
     have c7b1 : (a0.toList != ([100, 100] : List UInt8)) = true := bne_iff_ne.mpr c7
     by_cases c10 : a0.toList = ([100, 116] : List UInt8)
     ·rw [if_pos c10] at H
      have c10b0 : (a0.toList == ([100, 116] : List UInt8)) = true := beq_iff_eq.mpr c10
      have c10b1 : (a0.toList != ([100, 116] : List UInt8)) = false := bne_eq_false_iff_eq.mpr c10
      clear c10
      obtain ⟨y323, hy323⟩ : ∃ y_ : List ByteArray, y_ = (([(⟨#[100, 100]⟩ : ByteArray), (⟨#[100, 116]⟩ : ByteArray)] : List ByteArray)) := ⟨_, rfl⟩
      replace H : (some y323) = some r := by first | (rw [hy323]; with_reducible exact H) | (have H2_ := (Option.bind_some _ _).symm.trans H; rw [hy323]; with_reducible exact H2_) | (have H2_ := (Option.bind_some _ _).symm.trans H; with_reducible exact H2_) | with_reducible exact H | (rw [hy323]; exact H) | exact H
      have Ny323 := Aside0.mk hy323
      clear hy323
      obtain rfl := Option.some.inj H
      go_wp2_with (first | ((with_reducible refine gate_dst (N := 20) rfl ?_); refine Kd.R_lit Kd.string _ 9 ?hg (N := 20) ?hd (xs := ([(⟨#[100, 100]⟩ : ByteArray), (⟨#[100, 116]⟩ : ByteArray)] : List ByteArray)) (inner := [.string (⟨#[100, 100]⟩ : ByteArray), .string (⟨#[100, 116]⟩ : ByteArray)]) (ok := fun _ => True) (okp := fun _ => True) ?hr ?hp (fun _ hk => hk) trivial (Below.refl _ _) (Nat.le_refl _) (by simp) ?_; (case hd => rfl); (case hg => rfl); (case hr => first | (go_simp; done) | (go_simp; rfl)); (case hp => exact (Reps.one (show Kd.M Kd.string _ _ _ (⟨#[100, 100]⟩ : ByteArray) [.string (⟨#[100, 100]⟩ : ByteArray)] from rfl) (Reps.one (show Kd.M Kd.string _ _ _ (⟨#[100, 116]⟩ : ByteArray) [.string (⟨#[100, 116]⟩ : ByteArray)] from rfl) (Reps.none _ _)))); intro v324 w11 ho12 hb hg_ hnew_; clear hg_ hnew_; (first | rw [← Ny323.out] at ho12 | (simp only [Int.reduceToNat] at ho12; rw [← Ny323.out] at ho12)); have n0_ := Aside0.mk (Kd.R_lower ho12 (below_size y13_)); have n1_ := Aside0.mk (below_step y13_ hb); clear HB; have HO325 := n0_; have HB := n1_; clear n0_ n1_; clear hb ho12))
      go_ret
      exact ⟨_, y12_, by (with_reducible repeat (first | apply Kd.R_alloc | apply Kd.R_drewN | apply Kd.R_drew)); exact HO325.out, y13_⟩
     ·rw [if_neg c10] at H
      have c10b0 : (a0.toList == ([100, 116] : List UInt8)) = false := beq_eq_false_iff_ne.mpr c10
      have c10b1 : (a0.toList != ([100, 116] : List UInt8)) = true := bne_iff_ne.mpr c10
      by_cases c13 : a0.toList = ([111, 112, 116, 103, 114, 111, 117, 112] : List UInt8)
      ·rw [if_pos c13] at H
       have c13b0 : (a0.toList == ([111, 112, 116, 103, 114, 111, 117, 112] : List UInt8)) = true := beq_iff_eq.mpr c13
       have c13b1 : (a0.toList != ([111, 112, 116, 103, 114, 111, 117, 112] : List UInt8)) = false := bne_eq_false_iff_eq.mpr c13
       clear c13
       obtain ⟨y326, hy326⟩ : ∃ y_ : List ByteArray, y_ = (([(⟨#[111, 112, 116, 103, 114, 111, 117, 112]⟩ : ByteArray), (⟨#[111, 112, 116, 105, 111, 110]⟩ : ByteArray)] : List ByteArray)) := ⟨_, rfl⟩
       replace H : (some y326) = some r := by first | (rw [hy326]; with_reducible exact H) | (have H2_ := (Option.bind_some _ _).symm.trans H; rw [hy326]; with_reducible exact H2_) | (have H2_ := (Option.bind_some _ _).symm.trans H; with_reducible exact H2_) | with_reducible exact H | (rw [hy326]; exact H) | exact H
       have Ny326 := Aside0.mk hy326
       clear hy326
       obtain rfl := Option.some.inj H
       go_wp2_with (first | ((with_reducible refine gate_dst (N := 21) rfl ?_); refine Kd.R_lit Kd.string _ 9 ?hg (N := 21) ?hd (xs := ([(⟨#[111, 112, 116, 103, 114, 111, 117, 112]⟩ : ByteArray), (⟨#[111, 112, 116, 105, 111, 110]⟩ : ByteArray)] : List ByteArray)) (inner := [.string (⟨#[111, 112, 116, 103, 114, 111, 117, 112]⟩ : ByteArray), .string (⟨#[111, 112, 116, 105, 111, 110]⟩ : ByteArray)]) (ok := fun _ => True) (okp := fun _ => True) ?hr ?hp (fun _ hk => hk) trivial (Below.refl _ _) (Nat.le_refl _) (by simp) ?_; (case hd => rfl); (case hg => rfl); (case hr => first | (go_simp; done) | (go_simp; rfl)); (case hp => exact (Reps.one (show Kd.M Kd.string _ _ _ (⟨#[111, 112, 116, 103, 114, 111, 117, 112]⟩ : ByteArray) [.string (⟨#[111, 112, 116, 103, 114, 111, 117, 112]⟩ : ByteArray)] from rfl) (Reps.one (show Kd.M Kd.string _ _ _ (⟨#[111, 112, 116, 105, 111, 110]⟩ : ByteArray) [.string (⟨#[111, 112, 116, 105, 111, 110]⟩ : ByteArray)] from rfl) (Reps.none _ _)))); intro v327 w14 ho15 hb hg_ hnew_; clear hg_ hnew_; (first | rw [← Ny326.out] at ho15 | (simp only [Int.reduceToNat] at ho15; rw [← Ny326.out] at ho15)); have n0_ := Aside0.mk (Kd.R_lower ho15 (below_size y13_)); have n1_ := Aside0.mk (below_step y13_ hb); clear HB; have HO328 := n0_; have HB := n1_; clear n0_ n1_; clear hb ho15))
       go_ret
       exact ⟨_, y12_, by (with_reducible repeat (first | apply Kd.R_alloc | apply Kd.R_drewN | apply Kd.R_drew)); exact HO328.out, y13_⟩
      ·rw [if_neg c13] at H
       have c13b0 : (a0.toList == ([111, 112, 116, 103, 114, 111, 117, 112] : List UInt8)) = false := beq_eq_false_iff_ne.mpr c13
       have c13b1 : (a0.toList != ([111, 112, 116, 103, 114, 111, 117, 112] : List UInt8)) = true := bne_iff_ne.mpr c13
       by_cases c16 : a0.toList = ([116, 114] : List UInt8)
       ·rw [if_pos c16] at H
        have c16b0 : (a0.toList == ([116, 114] : List UInt8)) = true := beq_iff_eq.mpr c16
        have c16b1 : (a0.toList != ([116, 114] : List UInt8)) = false := bne_eq_false_iff_eq.mpr c16
        clear c16
        obtain ⟨y329, hy329⟩ : ∃ y_ : List ByteArray, y_ = (([(⟨#[116, 100]⟩ : ByteArray), (⟨#[116, 104]⟩ : ByteArray), (⟨#[116, 114]⟩ : ByteArray)] : List ByteArray)) := ⟨_, rfl⟩
        replace H : (some y329) = some r := by first | (rw [hy329]; with_reducible exact H) | (have H2_ := (Option.bind_some _ _).symm.trans H; rw [hy329]; with_reducible exact H2_) | (have H2_ := (Option.bind_some _ _).symm.trans H; with_reducible exact H2_) | with_reducible exact H | (rw [hy329]; exact H) | exact H
        have Ny329 := Aside0.mk hy329
        clear hy329
        obtain rfl := Option.some.inj H
        go_wp2_with (first | ((with_reducible refine gate_dst (N := 22) rfl ?_); refine Kd.R_lit Kd.string _ 9 ?hg (N := 22) ?hd (xs := ([(⟨#[116, 100]⟩ : ByteArray), (⟨#[116, 104]⟩ : ByteArray), (⟨#[116, 114]⟩ : ByteArray)] : List ByteArray)) (inner := [.string (⟨#[116, 100]⟩ : ByteArray), .string (⟨#[116, 104]⟩ : ByteArray), .string (⟨#[116, 114]⟩ : ByteArray)]) (ok := fun _ => True) (okp := fun _ => True) ?hr ?hp (fun _ hk => hk) trivial (Below.refl _ _) (Nat.le_refl _) (by simp) ?_; (case hd => rfl); (case hg => rfl); (case hr => first | (go_simp; done) | (go_simp; rfl)); (case hp => exact (Reps.one (show Kd.M Kd.string _ _ _ (⟨#[116, 100]⟩ : ByteArray) [.string (⟨#[116, 100]⟩ : ByteArray)] from rfl) (Reps.one (show Kd.M Kd.string _ _ _ (⟨#[116, 104]⟩ : ByteArray) [.string (⟨#[116, 104]⟩ : ByteArray)] from rfl) (Reps.one (show Kd.M Kd.string _ _ _ (⟨#[116, 114]⟩ : ByteArray) [.string (⟨#[116, 114]⟩ : ByteArray)] from rfl) (Reps.none _ _))))); intro v330 w17 ho18 hb hg_ hnew_; clear hg_ hnew_; (first | rw [← Ny329.out] at ho18 | (simp only [Int.reduceToNat] at ho18; rw [← Ny329.out] at ho18)); have n0_ := Aside0.mk (Kd.R_lower ho18 (below_size y13_)); have n1_ := Aside0.mk (below_step y13_ hb); clear HB; have HO331 := n0_; have HB := n1_; clear n0_ n1_; clear hb ho18))
        go_ret
        exact ⟨_, y12_, by (with_reducible repeat (first | apply Kd.R_alloc | apply Kd.R_drewN | apply Kd.R_drew)); exact HO331.out, y13_⟩
       ·rw [if_neg c16] at H
        have c16b0 : (a0.toList == ([116, 114] : List UInt8)) = false := beq_eq_false_iff_ne.mpr c16
        have c16b1 : (a0.toList != ([116, 114] : List UInt8)) = true := bne_iff_ne.mpr c16
        by_cases c19 : a0.toList = ([116, 100] : List UInt8)
        ·rw [if_pos c19] at H
         have c19b0 : (a0.toList == ([116, 100] : List UInt8)) = true := beq_iff_eq.mpr c19
         have c19b1 : (a0.toList != ([116, 100] : List UInt8)) = false := bne_eq_false_iff_eq.mpr c19
         clear c19
         obtain ⟨y332, hy332⟩ : ∃ y_ : List ByteArray, y_ = (([(⟨#[116, 100]⟩ : ByteArray), (⟨#[116, 104]⟩ : ByteArray)] : List ByteArray)) := ⟨_, rfl⟩
         replace H : (some y332) = some r := by first | (rw [hy332]; with_reducible exact H) | (have H2_ := (Option.bind_some _ _).symm.trans H; rw [hy332]; with_reducible exact H2_) | (have H2_ := (Option.bind_some _ _).symm.trans H; with_reducible exact H2_) | with_reducible exact H | (rw [hy332]; exact H) | exact H
         have Ny332 := Aside0.mk hy332
         clear hy332
         obtain rfl := Option.some.inj H
         go_wp2_with (first | ((with_reducible refine gate_dst (N := 23) rfl ?_); refine Kd.R_lit Kd.string _ 9 ?hg (N := 23) ?hd (xs := ([(⟨#[116, 100]⟩ : ByteArray), (⟨#[116, 104]⟩ : ByteArray)] : List ByteArray)) (inner := [.string (⟨#[116, 100]⟩ : ByteArray), .string (⟨#[116, 104]⟩ : ByteArray)]) (ok := fun _ => True) (okp := fun _ => True) ?hr ?hp (fun _ hk => hk) trivial (Below.refl _ _) (Nat.le_refl _) (by simp) ?_; (case hd => rfl); (case hg => rfl); (case hr => first | (go_simp; done) | (go_simp; rfl)); (case hp => exact (Reps.one (show Kd.M Kd.string _ _ _ (⟨#[116, 100]⟩ : ByteArray) [.string (⟨#[116, 100]⟩ : ByteArray)] from rfl) (Reps.one (show Kd.M Kd.string _ _ _ (⟨#[116, 104]⟩ : ByteArray) [.string (⟨#[116, 104]⟩ : ByteArray)] from rfl) (Reps.none _ _)))); intro v333 w20 ho21 hb hg_ hnew_; clear hg_ hnew_; (first | rw [← Ny332.out] at ho21 | (simp only [Int.reduceToNat] at ho21; rw [← Ny332.out] at ho21)); have n0_ := Aside0.mk (Kd.R_lower ho21 (below_size y13_)); have n1_ := Aside0.mk (below_step y13_ hb); clear HB; have HO334 := n0_; have HB := n1_; clear n0_ n1_; clear hb ho21))
         go_ret
         exact ⟨_, y12_, by (with_reducible repeat (first | apply Kd.R_alloc | apply Kd.R_drewN | apply Kd.R_drew)); exact HO334.out, y13_⟩
        ·rw [if_neg c19] at H
         have c19b0 : (a0.toList == ([116, 100] : List UInt8)) = false := beq_eq_false_iff_ne.mpr c19
         have c19b1 : (a0.toList != ([116, 100] : List UInt8)) = true := bne_iff_ne.mpr c19
         by_cases c22 : a0.toList = ([116, 104] : List UInt8)
         ·rw [if_pos c22] at H
          have c22b0 : (a0.toList == ([116, 104] : List UInt8)) = true := beq_iff_eq.mpr c22
          have c22b1 : (a0.toList != ([116, 104] : List UInt8)) = false := bne_eq_false_iff_eq.mpr c22
          clear c22
          obtain ⟨y335, hy335⟩ : ∃ y_ : List ByteArray, y_ = (([(⟨#[116, 100]⟩ : ByteArray), (⟨#[116, 104]⟩ : ByteArray)] : List ByteArray)) := ⟨_, rfl⟩
          replace H : (some y335) = some r := by first | (rw [hy335]; with_reducible exact H) | (have H2_ := (Option.bind_some _ _).symm.trans H; rw [hy335]; with_reducible exact H2_) | (have H2_ := (Option.bind_some _ _).symm.trans H; with_reducible exact H2_) | with_reducible exact H | (rw [hy335]; exact H) | exact H
          have Ny335 := Aside0.mk hy335
          clear hy335
          obtain rfl := Option.some.inj H
          go_wp2_with (first | ((with_reducible refine gate_dst (N := 23) rfl ?_); refine Kd.R_lit Kd.string _ 9 ?hg (N := 23) ?hd (xs := ([(⟨#[116, 100]⟩ : ByteArray), (⟨#[116, 104]⟩ : ByteArray)] : List ByteArray)) (inner := [.string (⟨#[116, 100]⟩ : ByteArray), .string (⟨#[116, 104]⟩ : ByteArray)]) (ok := fun _ => True) (okp := fun _ => True) ?hr ?hp (fun _ hk => hk) trivial (Below.refl _ _) (Nat.le_refl _) (by simp) ?_; (case hd => rfl); (case hg => rfl); (case hr => first | (go_simp; done) | (go_simp; rfl)); (case hp => exact (Reps.one (show Kd.M Kd.string _ _ _ (⟨#[116, 100]⟩ : ByteArray) [.string (⟨#[116, 100]⟩ : ByteArray)] from rfl) (Reps.one (show Kd.M Kd.string _ _ _ (⟨#[116, 104]⟩ : ByteArray) [.string (⟨#[116, 104]⟩ : ByteArray)] from rfl) (Reps.none _ _)))); intro v336 w23 ho24 hb hg_ hnew_; clear hg_ hnew_; (first | rw [← Ny335.out] at ho24 | (simp only [Int.reduceToNat] at ho24; rw [← Ny335.out] at ho24)); have n0_ := Aside0.mk (Kd.R_lower ho24 (below_size y13_)); have n1_ := Aside0.mk (below_step y13_ hb); clear HB; have HO337 := n0_; have HB := n1_; clear n0_ n1_; clear hb ho24))
          go_ret
          exact ⟨_, y12_, by (with_reducible repeat (first | apply Kd.R_alloc | apply Kd.R_drewN | apply Kd.R_drew)); exact HO337.out, y13_⟩
         ·rw [if_neg c22] at H
          have c22b0 : (a0.toList == ([116, 104] : List UInt8)) = false := beq_eq_false_iff_ne.mpr c22
          have c22b1 : (a0.toList != ([116, 104] : List UInt8)) = true := bne_iff_ne.mpr c22
          replace H := Option.bind_eq_some_iff.mp H
          obtain ⟨t338, A250, H⟩ := H
          have A25 := Aside0.mk A250
          clear A250
          by_cases c26 : t338 = true
          ·subst c26
           rw [if_pos rfl] at H
           obtain ⟨y339, hy339⟩ : ∃ y_ : List ByteArray, y_ = (([(⟨#[116, 98, 111, 100, 121]⟩ : ByteArray), (⟨#[116, 100]⟩ : ByteArray), (⟨#[116, 102, 111, 111, 116]⟩ : ByteArray), (⟨#[116, 104]⟩ : ByteArray), (⟨#[116, 104, 101, 97, 100]⟩ : ByteArray), (⟨#[116, 114]⟩ : ByteArray)] : List ByteArray)) := ⟨_, rfl⟩
           replace H : (some y339) = some r := by first | (rw [hy339]; with_reducible exact H) | (have H2_ := (Option.bind_some _ _).symm.trans H; rw [hy339]; with_reducible exact H2_) | (have H2_ := (Option.bind_some _ _).symm.trans H; with_reducible exact H2_) | with_reducible exact H | (rw [hy339]; exact H) | exact H
           have Ny339 := Aside0.mk hy339
           clear hy339
           obtain rfl := Option.some.inj H
           go_wp2_with (first | ((with_reducible refine gate_callee (f := 93) rfl ?_); refine goesL_ (some 25) rfl rfl Tryd.func93 (by kernel_rfl) rfl #[.string a0] rfl y14_ ?_; (with_reducible refine (names_table.calls kj1 a0 true _ A25.out).mono ?_); rintro e w27 ⟨rfl, hb⟩; refine ⟨_, rfl, ?_⟩; have n0_ := Aside0.mk (below_step y13_ hb); clear HB; have HB := n0_; clear n0_; (try clear hb); (try clear hb2); (try clear hk); (try clear hi)) | ((with_reducible refine gate_dst (N := 26) rfl ?_); refine Kd.R_lit Kd.string _ 9 ?hg (N := 26) ?hd (xs := ([(⟨#[116, 98, 111, 100, 121]⟩ : ByteArray), (⟨#[116, 100]⟩ : ByteArray), (⟨#[116, 102, 111, 111, 116]⟩ : ByteArray), (⟨#[116, 104]⟩ : ByteArray), (⟨#[116, 104, 101, 97, 100]⟩ : ByteArray), (⟨#[116, 114]⟩ : ByteArray)] : List ByteArray)) (inner := [.string (⟨#[116, 98, 111, 100, 121]⟩ : ByteArray), .string (⟨#[116, 100]⟩ : ByteArray), .string (⟨#[116, 102, 111, 111, 116]⟩ : ByteArray), .string (⟨#[116, 104]⟩ : ByteArray), .string (⟨#[116, 104, 101, 97, 100]⟩ : ByteArray), .string (⟨#[116, 114]⟩ : ByteArray)]) (ok := fun _ => True) (okp := fun _ => True) ?hr ?hp (fun _ hk => hk) trivial (Below.refl _ _) (Nat.le_refl _) (by simp) ?_; (case hd => rfl); (case hg => rfl); (case hr => first | (go_simp; done) | (go_simp; rfl)); (case hp => exact (Reps.one (show Kd.M Kd.string _ _ _ (⟨#[116, 98, 111, 100, 121]⟩ : ByteArray) [.string (⟨#[116, 98, 111, 100, 121]⟩ : ByteArray)] from rfl) (Reps.one (show Kd.M Kd.string _ _ _ (⟨#[116, 100]⟩ : ByteArray) [.string (⟨#[116, 100]⟩ : ByteArray)] from rfl) (Reps.one (show Kd.M Kd.string _ _ _ (⟨#[116, 102, 111, 111, 116]⟩ : ByteArray) [.string (⟨#[116, 102, 111, 111, 116]⟩ : ByteArray)] from rfl) (Reps.one (show Kd.M Kd.string _ _ _ (⟨#[116, 104]⟩ : ByteArray) [.string (⟨#[116, 104]⟩ : ByteArray)] from rfl) (Reps.one (show Kd.M Kd.string _ _ _ (⟨#[116, 104, 101, 97, 100]⟩ : ByteArray) [.string (⟨#[116, 104, 101, 97, 100]⟩ : ByteArray)] from rfl) (Reps.one (show Kd.M Kd.string _ _ _ (⟨#[116, 114]⟩ : ByteArray) [.string (⟨#[116, 114]⟩ : ByteArray)] from rfl) (Reps.none _ _)))))))); intro v340 w28 ho29 hb hg_ hnew_; clear hg_ hnew_; (first | rw [← Ny339.out] at ho29 | (simp only [Int.reduceToNat] at ho29; rw [← Ny339.out] at ho29)); have n0_ := Aside0.mk (Kd.R_lower ho29 (below_size y13_)); have n1_ := Aside0.mk (below_step y13_ hb); clear HB; have HO341 := n0_; have HB := n1_; clear n0_ n1_; clear hb ho29))
           go_ret
           exact ⟨_, y12_, by (with_reducible repeat (first | apply Kd.R_alloc | apply Kd.R_drewN | apply Kd.R_drew)); exact HO341.out, y13_⟩
          ·replace c26 := Bool.eq_false_iff.mpr c26
           subst c26
           rw [if_neg (show ¬ (false = true) by decide)] at H
           replace H := Option.bind_eq_some_iff.mp H
           obtain ⟨t342, A300, H⟩ := H
           have A30 := Aside0.mk A300
           clear A300
           by_cases c31 : t342 = true
           ·subst c31
            rw [if_pos rfl] at H
            obtain ⟨y343, hy343⟩ : ∃ y_ : List ByteArray, y_ = (([(⟨#[112]⟩ : ByteArray)] : List ByteArray)) := ⟨_, rfl⟩
            replace H : (some y343) = some r := by first | (rw [hy343]; with_reducible exact H) | (have H2_ := (Option.bind_some _ _).symm.trans H; rw [hy343]; with_reducible exact H2_) | (have H2_ := (Option.bind_some _ _).symm.trans H; with_reducible exact H2_) | with_reducible exact H | (rw [hy343]; exact H) | exact H
            have Ny343 := Aside0.mk hy343
            clear hy343
            obtain rfl := Option.some.inj H
            go_wp2_with (first | ((with_reducible refine gate_callee (f := 93) rfl ?_); refine goesL_ (some 25) rfl rfl Tryd.func93 (by kernel_rfl) rfl #[.string a0] rfl y14_ ?_; (with_reducible refine (names_table.calls kj1 a0 false _ A25.out).mono ?_); rintro e w32 ⟨rfl, hb⟩; refine ⟨_, rfl, ?_⟩; have n0_ := Aside0.mk (below_step y13_ hb); clear HB; have HB := n0_; clear n0_; (try clear hb); (try clear hb2); (try clear hk); (try clear hi)) | ((with_reducible refine gate_callee (f := 94) rfl ?_); refine goesL_ (some 28) rfl rfl Tryd.func94 (by kernel_rfl) rfl #[.string a0] rfl y14_ ?_; (with_reducible refine (names_Block.calls kj1 a0 true _ A30.out).mono ?_); rintro e w33 ⟨rfl, hb⟩; refine ⟨_, rfl, ?_⟩; have n0_ := Aside0.mk (below_step y13_ hb); clear HB; have HB := n0_; clear n0_; (try clear hb); (try clear hb2); (try clear hk); (try clear hi)) | ((with_reducible refine gate_dst (N := 29) rfl ?_); refine Kd.R_lit Kd.string _ 9 ?hg (N := 29) ?hd (xs := ([(⟨#[112]⟩ : ByteArray)] : List ByteArray)) (inner := [.string (⟨#[112]⟩ : ByteArray)]) (ok := fun _ => True) (okp := fun _ => True) ?hr ?hp (fun _ hk => hk) trivial (Below.refl _ _) (Nat.le_refl _) (by simp) ?_; (case hd => rfl); (case hg => rfl); (case hr => first | (go_simp; done) | (go_simp; rfl)); (case hp => exact (Reps.one (show Kd.M Kd.string _ _ _ (⟨#[112]⟩ : ByteArray) [.string (⟨#[112]⟩ : ByteArray)] from rfl) (Reps.none _ _))); intro v344 w34 ho35 hb hg_ hnew_; clear hg_ hnew_; (first | rw [← Ny343.out] at ho35 | (simp only [Int.reduceToNat] at ho35; rw [← Ny343.out] at ho35)); have n0_ := Aside0.mk (Kd.R_lower ho35 (below_size y13_)); have n1_ := Aside0.mk (below_step y13_ hb); clear HB; have HO345 := n0_; have HB := n1_; clear n0_ n1_; clear hb ho35))
            go_ret
            exact ⟨_, y12_, by (with_reducible repeat (first | apply Kd.R_alloc | apply Kd.R_drewN | apply Kd.R_drew)); exact HO345.out, y13_⟩
           ·replace c31 := Bool.eq_false_iff.mpr c31
            subst c31
            rw [if_neg (show ¬ (false = true) by decide)] at H
            obtain rfl := Option.some.inj H
            go_wp2_with (first | ((with_reducible refine gate_callee (f := 93) rfl ?_); refine goesL_ (some 25) rfl rfl Tryd.func93 (by kernel_rfl) rfl #[.string a0] rfl y14_ ?_; (with_reducible refine (names_table.calls kj1 a0 false _ A25.out).mono ?_); rintro e w36 ⟨rfl, hb⟩; refine ⟨_, rfl, ?_⟩; have n0_ := Aside0.mk (below_step y13_ hb); clear HB; have HB := n0_; clear n0_; (try clear hb); (try clear hb2); (try clear hk); (try clear hi)) | ((with_reducible refine gate_callee (f := 94) rfl ?_); refine goesL_ (some 28) rfl rfl Tryd.func94 (by kernel_rfl) rfl #[.string a0] rfl y14_ ?_; (with_reducible refine (names_Block.calls kj1 a0 false _ A30.out).mono ?_); rintro e w37 ⟨rfl, hb⟩; refine ⟨_, rfl, ?_⟩; have n0_ := Aside0.mk (below_step y13_ hb); clear HB; have HB := n0_; clear n0_; (try clear hb); (try clear hb2); (try clear hk); (try clear hi)))
            go_ret
            exact ⟨_, y12_, y15_, y13_⟩
end Go.Proofs.YtpnhjipaeggcpaaDoor.X
end
section
namespace Go.Proofs.YtpnhjipaeggcpaaDoor.X
open Go.RowKit Go.Proofs.YtpnhjipaeggcpaaDoorW.PrintWords Go.Proofs.YtpnhjipaeggcpaaDoorW.PrintLast Go.Proofs.YtpnhjipaeggcpaaDoorW.PrintMore
attribute [local go_sem] max2_int min2_int max_two min_two max_three min_three max_four min_four
def slices_Index_string_string.l0 : Nat → List ByteArray → ByteArray → Int → Int → Option (Int)
 | 0, _, _, _, _ => none
 | k + 1, x0, x1, x7, x8 => if x8 < x7 then (if 0 ≤ x8 then (if x8 < (x0.length : Int) then (if x1.toList = (rdOf ByteArray.empty x0 x8).toList then (some x8) else (slices_Index_string_string.l0 k x0 x1 x7 (wrap64 (x8 + 1)))) else (none)) else (none)) else (some (-1))
def slices_Index_string_string.f (k : Nat) (l0 : List ByteArray) (a1 : ByteArray) : Option (Int) := slices_Index_string_string.l0 k l0 a1 (l0.length : Int) 0
set_option maxHeartbeats 8000000 in
set_option maxRecDepth 100000 in
theorem slices_Index_string_string.calls (k : Nat) (A0 : Option Addr) (c0 : Nat) (l0 : List ByteArray) (a1 : ByteArray) (r : Int) (w : World) (hr0 : Kd.C Kd.string w A0 l0.length l0) (hc0 : l0.length ≤ c0) (h : slices_Index_string_string.f k l0 a1 = some r) :
  Calls Tryd.prog 102 #[.slice A0 l0.length c0, .string a1] w fun e w' => e = .returned (.int .i64 r) ∧ Drawn0 w w' := by
 have HR0 := Aside0.mk hr0
 have HC0 := Aside0.mk hc0
 clear hr0 hc0
 have H : (slices_Index_string_string.l0 k l0 a1 (l0.length : Int) 0) = some r := h
 clear h
 have H' := Aside0.mk H
 clear H
 go_enter Tryd.func102, Tryd.ntmps102
 go_wp2
 go_loopg [8] k (fun kq v8 w' => ∃ (x8_1 : Int), v8 = .int .i64 x8_1 ∧ Aside0 (slices_Index_string_string.l0 kq l0 a1 (l0.length : Int) x8_1 = some r) ∧ Aside0 (kq ≤ k) ∧ Drawn0 w w')
 case atStart => exact ⟨(0), y4_, H', ⟨Nat.le_refl _⟩, y3_⟩
 case round =>
  clear H'
  try clear c1
  try clear p2
  obtain ⟨x8_1, rfl, HA, HK1, ⟨m1, rfl⟩⟩ := hrel
  cases gk with
  | zero => exact absurd HA.out (by simp [slices_Index_string_string.l0])
  | succ k1 =>
   have H := HA.out
   clear HA
   simp only [slices_Index_string_string.l0] at H
   by_cases c3 : x8_1 < (l0.length : Int)
   ·rw [if_pos c3] at H
    have c3b0 : decide (x8_1 < (l0.length : Int)) = true := decide_eq_true c3
    clear c3
    by_cases c4 : 0 ≤ x8_1
    rotate_left
    ·rw [if_neg c4] at H
     exact absurd H (by simp)
    rw [if_pos c4] at H
    have c4b0 : decide (0 ≤ x8_1) = true := decide_eq_true c4
    clear c4
    by_cases c5 : x8_1 < (l0.length : Int)
    rotate_left
    ·rw [if_neg c5] at H
     exact absurd H (by simp)
    rw [if_pos c5] at H
    have c5b0 : decide (x8_1 < (l0.length : Int)) = true := decide_eq_true c5
    clear c5
    by_cases c6 : a1.toList = (rdOf ByteArray.empty l0 x8_1).toList
    ·rw [if_pos c6] at H
     have c6b0 : (a1.toList == (rdOf ByteArray.empty l0 x8_1).toList) = true := beq_iff_eq.mpr c6
     have c6b1 : (a1.toList != (rdOf ByteArray.empty l0 x8_1).toList) = false := bne_eq_false_iff_eq.mpr c6
     clear c6
     obtain rfl := Option.some.inj H
     have p463 : 0 ≤ (x8_1 : Int) := of_decide_eq_true y2_
     have q463 : x8_1 < (l0.length : Int) := of_decide_eq_true y2_
     obtain ⟨ad463, e463, hx463_0⟩ := Kd.at_string HR0.out x8_1 p463 q463
     cases e463
     replace p463 := eq_true p463
     replace q463 := eq_true q463
     go_wp2
     go_ret
     exact ⟨y4_, y3_⟩
    ·rw [if_neg c6] at H
     have c6b0 : (a1.toList == (rdOf ByteArray.empty l0 x8_1).toList) = false := beq_eq_false_iff_ne.mpr c6
     have c6b1 : (a1.toList != (rdOf ByteArray.empty l0 x8_1).toList) = true := bne_iff_ne.mpr c6
     have H' := Aside0.mk H
     clear H
     have p463 : 0 ≤ (x8_1 : Int) := of_decide_eq_true y2_
     have q463 : x8_1 < (l0.length : Int) := of_decide_eq_true y2_
     obtain ⟨ad463, e463, hx463_0⟩ := Kd.at_string HR0.out x8_1 p463 q463
     cases e463
     replace p463 := eq_true p463
     replace q463 := eq_true q463
     go_wp2
     go_roundg k1
     case measure => have := HK1.out; omega
     case rel => exact ⟨(wrap64 (x8_1 + 1)), y4_, H', ⟨by have := HK1.out; omega⟩, y3_⟩
   ·rw [if_neg c3] at H
    have c3b0 : decide (x8_1 < (l0.length : Int)) = false := decide_eq_false c3
    clear c3
    obtain rfl := Option.some.inj H
    go_wp2
    go_ret
    exact ⟨y4_, y3_⟩
end Go.Proofs.YtpnhjipaeggcpaaDoor.X
end
section
namespace Go.Proofs.YtpnhjipaeggcpaaDoor.X
open Go.RowKit Go.Proofs.YtpnhjipaeggcpaaDoorW.PrintWords Go.Proofs.YtpnhjipaeggcpaaDoorW.PrintLast Go.Proofs.YtpnhjipaeggcpaaDoorW.PrintMore
attribute [local go_sem] max2_int min2_int max_two min_two max_three min_three max_four min_four
def slices_Contains_string_string.f (k : Nat) (l0 : List ByteArray) (a1 : ByteArray) : Option (Bool) := (slices_Index_string_string.f k l0 a1).bind fun t464 => (some (decide (t464 ≥ 0)))
set_option maxHeartbeats 8000000 in
set_option maxRecDepth 100000 in
theorem slices_Contains_string_string.calls (k : Nat) (A0 : Option Addr) (c0 : Nat) (l0 : List ByteArray) (a1 : ByteArray) (r : Bool) (w : World) (hr0 : Kd.C Kd.string w A0 l0.length l0) (hc0 : l0.length ≤ c0) (h : slices_Contains_string_string.f k l0 a1 = some r) :
  Calls Tryd.prog 92 #[.slice A0 l0.length c0, .string a1] w fun e w' => e = .returned (.bool r) ∧ Drawn0 w w' := by
 have HR0 := Aside0.mk hr0
 have HC0 := Aside0.mk hc0
 clear hr0 hc0
 have H : ((slices_Index_string_string.f k l0 a1).bind fun t464 => (some (decide (t464 ≥ 0)))) = some r := h
 clear h
 replace H := Option.bind_eq_some_iff.mp H
 obtain ⟨t464, A30, H⟩ := H
 have A3 := Aside0.mk A30
 clear A30
 obtain rfl := Option.some.inj H
 go_enter Tryd.func92, Tryd.ntmps92
 go_wp2_with (first | ((with_reducible refine gate_callee (f := 102) rfl ?_); refine goesL_ (some 7) rfl rfl Tryd.func102 (by kernel_rfl) rfl #[.slice A0 l0.length c0, .string a1] rfl y14_ ?_; (with_reducible refine (slices_Index_string_string.calls k _ _ l0 a1 t464 _ ?side1 ?side2 A3.out).mono ?_); (case side1 => repeat (first | exact HR0.out | (with_reducible refine Kd.C_alloc ?_ _) | (with_reducible refine Kd.C_drewN ?_ _) | (with_reducible refine Kd.C_drew ?_))); (case side2 => exact HC0.out); rintro e w' ⟨rfl, ⟨nd, rfl⟩⟩; refine ⟨_, rfl, ?_⟩))
 go_ret
 exact ⟨y4_, y3_⟩
end Go.Proofs.YtpnhjipaeggcpaaDoor.X
end
section
namespace Go.Proofs.YtpnhjipaeggcpaaDoor.X
open Go.RowKit Go.Shelf Go.Proofs.YtpnhjipaeggcpaaDoorW.PrintWords Go.Proofs.YtpnhjipaeggcpaaDoorW.PrintLast Go.Proofs.YtpnhjipaeggcpaaDoorW.PrintMore
attribute [local go_sem] Oper.semAt_some
def hasB (l : List ByteArray) (s : ByteArray) : Bool := l.any fun x => s.toList == x.toList
theorem contains_loop (l : List ByteArray) (s : ByteArray) (hl : l.length ≤ 9223372036854775807) : ∀ (d j : Nat), j + d = l.length →
    (∀ x ∈ l.take j, (s.toList == x.toList) = false) → ∃ r : Int, slices_Index_string_string.l0 (d + 1) l s (l.length : Int) (j : Int) = some r ∧ decide (r ≥ 0) = hasB l s
  | 0, j, hj, hn => by
    refine ⟨-1, ?_, ?_⟩
    · simp only [slices_Index_string_string.l0]; rw [if_neg (by omega)]
    · have : hasB l s = false := by
        unfold hasB
        rw [List.any_eq_false]
        intro x hx
        rw [List.take_of_length_le (by omega)] at hn
        simp [hn x hx]
      rw [this]; rfl
  | d + 1, j, hj, hn => by
    have hlt : j < l.length := by omega
    have hrd : rdOf ByteArray.empty l (j : Int) = l[j] := by simp [rdOf, hlt]
    by_cases he : s.toList = l[j].toList
    · refine ⟨j, ?_, ?_⟩
      · simp only [slices_Index_string_string.l0]; rw [if_pos (by omega), if_pos (by omega), if_pos (by omega), hrd, if_pos he]
      · have : hasB l s = true := List.any_eq_true.2 ⟨l[j], List.getElem_mem hlt, by simp [he]⟩
        rw [this]; simp
    · obtain ⟨r, h1, h2⟩ := contains_loop l s hl d (j + 1) (by omega) (by
        intro x hx
        rw [List.take_succ_eq_append_getElem hlt] at hx
        rcases List.mem_append.1 hx with h | h
        · exact hn x h
        · obtain rfl : x = l[j] := by simpa using h
          simp [he])
      refine ⟨r, ?_, h2⟩
      rw [show d + 1 + 1 = (d + 1) + 1 from rfl]
      simp only [slices_Index_string_string.l0] at h1 ⊢
      rw [if_pos (by omega), if_pos (by omega), if_pos (by omega), hrd, if_neg he, show wrap64 ((j : Int) + 1) = ((j + 1 : Nat) : Int) by unfold wrap64; omega]
      exact h1
theorem contains_is (l : List ByteArray) (s : ByteArray) (hl : l.length ≤ 9223372036854775807) : slices_Contains_string_string.f (l.length + 1) l s = some (hasB l s) := by
  obtain ⟨r, h1, h2⟩ := contains_loop l s hl l.length 0 (by omega) (by simp)
  unfold slices_Contains_string_string.f slices_Index_string_string.f
  rw [show ((0 : Nat) : Int) = 0 from rfl] at h1
  rw [h1]
  simp only [Option.bind_some]
  rw [h2]
def back (ss : List ByteArray) (k : Nat) : List (Int × ByteArray) := (List.range k).map fun (j : Nat) => (((ss.length : Int) - 1 - (j : Int), ss.getD (ss.length - 1 - j) ⟨#[]⟩) : Int × ByteArray)
theorem back_succ (ss : List ByteArray) (k : Nat) : back ss (k + 1) = back ss k ++ [((ss.length : Int) - 1 - k, ss.getD (ss.length - 1 - k) ⟨#[]⟩)] := by simp [back, List.range_succ]
theorem back_length (ss : List ByteArray) (k : Nat) : (back ss k).length = k := by simp [back]
def foundGo (so wa : List ByteArray) : List ByteArray → Int
  | [] => -1
  | x :: r => if hasB so x = true then (r.length : Int) else if hasB wa x = true then -1 else foundGo so wa r
def build_found.f (op so wa : List ByteArray) : Option Int := some (foundGo so wa op.reverse)
set_option maxRecDepth 100000 in
set_option maxHeartbeats 2000000 in
theorem back1_in (F : Fence) (n : Nat) (hf : F.fn 101) (hro : F.round = none) (hn : 1 ≤ n) (l Bs n₀ cap : Nat) (A : Option Addr) (ss : List ByteArray) (w0 : World) (hw0 : w0.heap.size ≤ n₀) (hC : Kd.C Kd.string w0 A ss.length ss) (hBs : Bs < n₀) (J Jx : List (Int × ByteArray) → World → Prop)
    (hY : ∀ pre x W, J pre W → pre.length < ss.length → YieldAt F (n - 1) Tryd.prog l #[.int .i64 x.1, .string x.2] W fun e W' =>
      (e = .returned (.bool true) ∧ J (pre ++ [x]) W' ∧ Below n₀ W W') ∨ (e = .returned (.bool false) ∧ Jx (pre ++ [x]) W'))
    (W : World) (hb : Below w0.heap.size w0 W) (hc : W.cell? ⟨Bs, 0, none⟩ = some (.slice A ss.length cap)) (h0 : J [] W) :
    CallsIn F n Tryd.prog 101 #[.func (.yield l) #[] #[], .pointer (some ⟨Bs, 0, none⟩)] W fun e W' => (∃ v, e = .returned v) ∧
      ((∃ ys, ys = back ss ss.length ∧ J ys W') ∨ (∃ pre, (∃ k, k ≤ ss.length ∧ pre = back ss k) ∧ Jx pre W')) := by
  have hmax : ss.length ≤ 9223372036854775807 := hC.2.1
  have HC := Aside0.mk hC
  have HW := Aside0.mk hb
  clear hC hb
  refine callsIn_of_wp Tryd.func101 rfl hf ?_ hro
  simp only [Tryd.ntmps101, List.size_toArray, List.length_cons, List.length_nil, Nat.reduceAdd, Nat.reduceSub, Array.replicate_succ, Array.replicate_zero, List.push_toArray, List.append_toArray, List.nil_append, List.cons_append]
  gi_wp2
  gi_loopw [3] (fun i wr => ∃ (k : Nat) (v : Int), i = .int .i64 v ∧ k ≤ ss.length ∧ Aside0 (v = (ss.length : Int) - 1 - k) ∧ -1 ≤ v ∧ v < (ss.length : Int) ∧ Aside0 (J (back ss k) wr) ∧ Aside0 (Below n₀ W wr))
    (fun i _ => (intOf i + 1).toNat)
  case atStart => exact ⟨0, (ss.length : Int) - 1, rfl, Nat.zero_le _, ⟨by omega⟩, by omega, by omega, ⟨h0⟩, ⟨Below.refl _ _⟩⟩
  case round =>
    obtain ⟨k, v, rfl, hk, HV, hv0, hv1, HJ, HB⟩ := hrel
    have hcb := (HB.out.cell (p := ⟨Bs, 0, none⟩) hBs).trans hc
    by_cases hlt : 0 ≤ v
    · obtain ⟨i, rfl⟩ := Int.eq_ofNat_of_zero_le hlt
      have hi : i < ss.length := by omega
      obtain ⟨x, hx, hxe⟩ := getD_at hi
      have HX := Aside0.mk hx
      obtain ⟨ad, e, hcell⟩ := str_at (Kd.C_below HC.out (HW.out.trans (HB.out.mono hw0))) hx
      clear hx hxe
      cases e
      obtain ⟨fn, tmps, assign, body, hy, hR⟩ := hY _ ((i : Int), x) wr HJ.out (by rw [back_length]; have := HV.out; omega)
      dsimp only at hy
      gi_wp2
      refine hR.mono ?_
      have hpre : back ss k ++ [((i : Int), x)] = back ss (k + 1) := by
        rw [back_succ]
        have h1 := HV.out
        have h2 : ss.length - 1 - k = i := by omega
        rw [h2, List.getD_eq_getElem?_getD, HX.out, ← h1]
        try rfl
      have HP := Aside0.mk hpre
      clear hpre
      rintro e W3 (⟨rfl, hJ3, hk3⟩ | ⟨rfl, hJx3⟩)
      · have HJ3 := Aside0.mk hJ3
        have HK3 := Aside0.mk hk3
        clear hJ3 hk3
        gi_wp2
        go_roundw
        case rel => exact ⟨k + 1, (i : Int) - 1, rfl, by have := HV.out; omega, ⟨by have := HV.out; omega⟩, by omega, by omega, ⟨by rw [← HP.out]; exact HJ3.out⟩, ⟨HB.out.trans HK3.out⟩⟩
        case measure => simp [intOf]; try omega
      · have HJ3 := Aside0.mk hJx3
        clear hJx3
        gi_wp2
        refine bodyPost_ret (results_none rfl _ _ _) rfl ?_
        exact ⟨⟨_, rfl⟩, .inr ⟨_, ⟨k + 1, by have := HV.out; omega, HP.out⟩, HJ3.out⟩⟩
    · gi_wp2
      go_end0
      have h1 := HV.out
      obtain rfl : k = ss.length := by omega
      exact ⟨⟨_, rfl⟩, .inl HJ.out⟩
set_option maxHeartbeats 1000000 in
theorem back_in (F : Fence) (n : Nat) (hf : F.fn 91) (hro : F.round = none) (a : Option Addr) (len cap : Nat) (w : World) :
    CallsIn F n Tryd.prog 91 #[.slice a len cap] w fun e w' => e = .returned (.func (.func 101) #[] #[.pointer (some ⟨w.heap.size, 0, none⟩)]) ∧ w' = w.alloc (.cells #[.slice a len cap] 43) := by
  refine callsIn_of_wp Tryd.func91 rfl hf ?_ hro
  simp only [Tryd.ntmps91, List.size_toArray, List.length_cons, List.length_nil, Nat.reduceAdd, Nat.reduceSub, Array.replicate_succ, Array.replicate_zero, List.push_toArray, List.append_toArray, List.nil_append, List.cons_append]
  gi_wp2
  go_ret
  exact ⟨rfl, rfl⟩
theorem contains_any (A : Option Addr) (c : Nat) (l : List ByteArray) (s : ByteArray) (w : World) (hr : Kd.C Kd.string w A l.length l) (hc : l.length ≤ c) :
    Calls Tryd.prog 92 #[.slice A l.length c, .string s] w fun e w' => e = .returned (.bool (hasB l s)) ∧ ∃ n, w' = w.drewN n :=
  (slices_Contains_string_string.calls _ A c l s _ w hr hc (contains_is l s hr.2.1)).mono fun _ _ h => ⟨h.1, h.2.out⟩
theorem foundGo_none (so wa : List ByteArray) : ∀ l : List ByteArray, (∀ x ∈ l, hasB so x = false ∧ hasB wa x = false) → foundGo so wa l = -1
  | [], _ => rfl
  | x :: r, h => by
    have := h x (by simp)
    simp [foundGo, this.1, this.2, foundGo_none so wa r (fun y hy => h y (by simp [hy]))]
theorem foundGo_skip (so wa : List ByteArray) : ∀ (l r : List ByteArray), (∀ x ∈ l, hasB so x = false ∧ hasB wa x = false) → foundGo so wa (l ++ r) = foundGo so wa r
  | [], _, _ => rfl
  | x :: l, r, h => by
    have := h x (by simp)
    simp [foundGo, this.1, this.2, foundGo_skip so wa l r (fun y hy => h y (by simp [hy]))]
theorem back_rev (ss : List ByteArray) (k : Nat) (hk : k ≤ ss.length) : (back ss k).map (·.2) = ss.reverse.take k := by
  apply List.ext_getElem
  · simp [back, hk]
  · intro i h1 h2
    have hi : i < k := by simpa [back] using h1
    simp [back, List.getElem_reverse, show ss.length - 1 - i < ss.length by omega]
theorem found_all (op so wa : List ByteArray) (h : ∀ p ∈ back op op.length, hasB so p.2 = false ∧ hasB wa p.2 = false) : foundGo so wa op.reverse = -1 := by
  refine foundGo_none so wa _ fun x hx => ?_
  have e := back_rev op op.length (Nat.le_refl _)
  rw [List.take_of_length_le (by simp)] at e
  rw [← e] at hx
  obtain ⟨p, hp, rfl⟩ := List.mem_map.1 hx
  exact h p hp
theorem found_some (op so wa : List ByteArray) (k : Nat) (hk : k < op.length) (h : ∀ p ∈ back op k, hasB so p.2 = false ∧ hasB wa p.2 = false) :
    foundGo so wa op.reverse = (if hasB so (op.getD (op.length - 1 - k) ⟨#[]⟩) = true then (op.length : Int) - 1 - k else if hasB wa (op.getD (op.length - 1 - k) ⟨#[]⟩) = true then -1 else foundGo so wa (op.reverse.drop (k + 1))) := by
  have e := back_rev op k (by omega)
  have hlt : k < op.reverse.length := by simpa using hk
  conv => lhs; rw [← List.take_append_drop k op.reverse]
  rw [foundGo_skip so wa _ _ (fun x hx => by rw [← e] at hx; obtain ⟨p, hp, rfl⟩ := List.mem_map.1 hx; exact h p hp), List.drop_eq_getElem_cons hlt]
  simp only [foundGo]
  have e2 : op.reverse[k] = op.getD (op.length - 1 - k) ⟨#[]⟩ := by simp [List.getElem_reverse, List.getD_eq_getElem?_getD, show op.length - 1 - k < op.length by omega]
  rw [e2]
  simp only [List.length_drop, List.length_reverse]
  have e3 : ((op.length - (k + 1) : Nat) : Int) = (op.length : Int) - 1 - k := by omega
  rw [e3]
theorem keepsO_drewN (W : World) (n : Nat) : KeepsOthers W (W.drewN n) := ⟨Nat.le_refl _, fun _ _ h _ => h⟩
theorem bx_drewN {W : World} {B : Nat} {t : TypeId} {v : Value} (h : Boxed W B t v) (n : Nat) : Boxed (W.drewN n) B t v := h
theorem bx_own {W W' : World} {B : Nat} {t : TypeId} {v : Value} {row : Option Nat} (h : Boxed W B t v) (hg : W.grownBy W' row) (hr : ∀ r, row = some r → ∃ o : Obj, W.heap[r]? = some o ∧ o.isCells = false) : Boxed W' B t v :=
  h.kept hg (fun e' => by obtain ⟨o, ho, hc⟩ := hr B e'.symm; rw [show W.heap[B]? = _ from h] at ho; cases ho; cases hc)
set_option maxRecDepth 100000 in
set_option maxHeartbeats 4000000 in
theorem found_in (a0 a1 a2 : Option Addr) (c0 c1 c2 : Nat) (op so wa : List ByteArray) (w : World) (h0 : Kd.C Kd.string w a0 op.length op) (h1 : Kd.C Kd.string w a1 so.length so) (h2 : Kd.C Kd.string w a2 wa.length wa) (l1 : so.length ≤ c1) (l2 : wa.length ≤ c2) :
    CallsIn Fence.wide 3 Tryd.prog 75 #[.slice a0 op.length c0, .slice a1 so.length c1, .slice a2 wa.length c2] w fun e W' => e = .returned (.int .i64 (foundGo so wa op.reverse)) ∧ Below w.heap.size w W' := by
  have H0 := Aside0.mk h0
  have H1 := Aside0.mk h1
  have H2 := Aside0.mk h2
  clear h0 h1 h2
  refine callsIn_of_wp_marks Tryd.func75 rfl trivial ?_ rfl
  simp only [Tryd.ntmps75, List.size_toArray, List.length_cons, List.length_nil, Nat.reduceAdd, Nat.reduceSub, Array.replicate_succ, Array.replicate_zero, List.push_toArray, List.append_toArray, List.nil_append, List.cons_append]
  gi_wp2_with (refine ⟨trivial, ?_⟩; gi_at_call 91; refine (back_in Fence.wide _ trivial rfl _ _ _ _).mono ?_; rintro e w' ⟨rfl, rfl⟩)
  have bS := Boxed.new w 43 (.slice a1 so.length c1)
  have bW := Boxed.new (w.alloc (.cells #[.slice a1 so.length c1] 43)) 43 (.slice a2 wa.length c2)
  have bR := Boxed.new ((w.alloc (.cells #[.slice a1 so.length c1] 43)).alloc (.cells #[.slice a2 wa.length c2] 43)) 3 (.int .i64 0)
  have bN := Boxed.new (((w.alloc (.cells #[.slice a1 so.length c1] 43)).alloc (.cells #[.slice a2 wa.length c2] 43)).alloc (.cells #[.int .i64 0] 3)) 43 (.slice a0 op.length c0)
  simp only [World.size_alloc] at bW bR bN
  obtain ⟨W0, hW0⟩ : ∃ W0, ((((w.alloc (.cells #[.slice a1 so.length c1] 43)).alloc (.cells #[.slice a2 wa.length c2] 43)).alloc (.cells #[.int .i64 0] 3)).alloc (.cells #[.slice a0 op.length c0] 43)) = W0 := ⟨_, rfl⟩
  have hsz : W0.heap.size = w.heap.size + 4 := by rw [← hW0]; simp
  have hB0 : Below w.heap.size w W0 := by rw [← hW0]; exact ((((Below.refl _ w).alloc (Nat.le_refl _) _).alloc (by simp) _).alloc (by simp; omega) _).alloc (by simp; omega) _
  have bS0 : Boxed W0 w.heap.size 43 (.slice a1 so.length c1) := by rw [← hW0]; exact ((bS.alloc _).alloc _).alloc _
  have bW0 : Boxed W0 (w.heap.size + 1) 43 (.slice a2 wa.length c2) := by rw [← hW0]; exact (bW.alloc _).alloc _
  have bR0 : Boxed W0 (w.heap.size + 1 + 1) 3 (.int .i64 0) := by rw [← hW0]; exact bR.alloc _
  have bN0 : Boxed W0 (w.heap.size + 1 + 1 + 1) 43 (.slice a0 op.length c0) := by rw [← hW0]; exact bN
  rw [hW0]
  clear hW0 bS bW bR bN
  refine wpIn_rangeFunc_ownF rfl (by omega) (gf := 101) (lb := #[.pointer (some ⟨w.heap.size + 1 + 1 + 1, 0, none⟩)]) rfl trivial (enters_of Tryd.func101 (by kernel_rfl) rfl)
    (encs := fun x : Int × ByteArray => #[Value.int .i64 x.1, Value.string x.2]) (Kp := Below (w.heap.size + 4)) (S := fun ys => ys = back op op.length) (Sp := fun pre => ∃ k, k ≤ op.length ∧ pre = back op k) (N := op.length) (w0 := W0)
    (fun l J Jx W hW _ _ hY h0 => back1_in Fence.wide _ trivial rfl (by omega) l (w.heap.size + 1 + 1 + 1) (w.heap.size + 4) c0 a0 op w (by omega) H0.out (by omega) J Jx hY W (hB0.trans (hW.mono (by omega))) ((hW.cell (p := ⟨w.heap.size + 1 + 1 + 1, 0, none⟩) (by simp only [hsz]; omega)).trans bN0.cell) h0)
    belowK_t (belowK_b (by omega)) (Below.refl _ _) (fun _ => rfl)
    (fun pre W => ((∀ p ∈ pre, hasB so p.2 = false ∧ hasB wa p.2 = false) ∧ Boxed W w.heap.size 43 (.slice a1 so.length c1) ∧ Boxed W (w.heap.size + 1) 43 (.slice a2 wa.length c2) ∧ Boxed W (w.heap.size + 1 + 1) 3 (.int .i64 0)) ∧ Below w.heap.size w W)
    (fun c pre W => (c = .ret ∧ ∃ ini last, pre = ini ++ [last] ∧ (∀ p ∈ ini, hasB so p.2 = false ∧ hasB wa p.2 = false) ∧ (hasB so last.2 = true ∨ hasB wa last.2 = true) ∧ Boxed W (w.heap.size + 1 + 1) 3 (.int .i64 (if hasB so last.2 = true then last.1 else -1))) ∧ Below w.heap.size w W)
    ?hI ?hIx ⟨⟨by simp, bS0, bW0, bR0⟩, hB0⟩
    (fun x => { tmps := #[.slice a0 op.length c0, .slice a1 so.length c1, .slice a2 wa.length c2, undef, .pointer (some ⟨w.heap.size, 0, none⟩), .pointer (some ⟨w.heap.size + 1, 0, none⟩), .pointer (some ⟨w.heap.size + 1 + 1, 0, none⟩), .int .i64 x.1, .string x.2, .slice a0 op.length c0, .func (.func 101) #[] #[.pointer (some ⟨w.heap.size + 1 + 1 + 1, 0, none⟩)], .int .i64 x.1, .string x.2, undef, undef, undef, undef, undef, undef, undef, undef, undef], defers := [] }) ?assign ?body ?done ?stop
  case hI =>
    exact OwnFrom.and (Own.from (fun s A B row hs hg hr => ⟨hs.1, bx_own hs.2.1 hg hr, bx_own hs.2.2.1 hg hr, bx_own hs.2.2.2 hg hr⟩) _) (ownFrom_below (Nat.le_refl _) (by omega))
  case hIx =>
    exact fun c => OwnFrom.and (Own.from (fun s A B row hs hg hr => by obtain ⟨hc, ini, last, e1, e2, e3, e4⟩ := hs; exact ⟨hc, ini, last, e1, e2, e3, bx_own e4 hg hr⟩) _) (ownFrom_below (Nat.le_refl _) (by omega))
  case assign =>
    intro l x W K hK
    gi_wp2
    exact hK
  case body =>
    rintro l pre x W ⟨⟨hp, b1, b2, b3⟩, hB⟩ _
    have HP := Aside0.mk hp
    have c1_ := b1.cell
    have c2_ := b2.cell
    have c3_ := b3.cell
    have f3_ := b3.frozen
    have B1 := Aside0.mk b1
    have B2 := Aside0.mk b2
    have B3 := Aside0.mk b3
    have HB := Aside0.mk hB
    clear hp b1 b2 b3 hB
    have hc1 := contains_any a1 c1 so x.2 W (Kd.C_below H1.out HB.out) l1
    have hc2 := fun n => contains_any a2 c2 wa x.2 (W.drewN n) (Kd.C_below H2.out (pw_below_drewN HB.out n)) l2
    cases hs : hasB so x.2 with
    | true =>
      rw [hs] at hc1
      have HS := Aside0.mk hs
      clear hs hc2
      gi_wp2_with (refine ⟨trivial, ?_⟩; gi_at_call 92; refine (CallsIn.inRound l (callsIn_wide.2 hc1)).mono ?_; clear hc1; rintro e w' ⟨rfl, n1, rfl⟩)
      refine ⟨(keepsO_drewN W n1).trans (KeepsOthers.setCell _ _ _), ⟨rfl, pre, x, rfl, HP.out, .inl HS.out, ?_⟩, ?_⟩
      · rw [if_pos HS.out]; exact (bx_drewN B3.out n1).set _
      · exact (pw_below_drewN HB.out n1).setCell (p := ⟨w.heap.size + 1 + 1, 0, none⟩) (by simp only; omega) _
    | false =>
      rw [hs] at hc1
      have HS := Aside0.mk hs
      clear hs
      cases hw : hasB wa x.2 with
      | true =>
        rw [hw] at hc2
        have HW := Aside0.mk hw
        clear hw
        gi_wp2_with (first | (refine ⟨trivial, ?_⟩; gi_at_call 92; refine (CallsIn.inRound l (callsIn_wide.2 hc1)).mono ?_; clear hc1; rintro e w' ⟨rfl, n1, rfl⟩) | (refine ⟨trivial, ?_⟩; gi_at_call 92; refine (CallsIn.inRound l (callsIn_wide.2 (hc2 n1))).mono ?_; clear hc2; rintro e w' ⟨rfl, n2, rfl⟩))
        refine ⟨(keepsO_drewN W (n1 + n2)).trans (KeepsOthers.setCell _ _ _), ⟨rfl, pre, x, rfl, HP.out, .inr HW.out, ?_⟩, ?_⟩
        · rw [if_neg (by rw [HS.out]; simp)]; exact (bx_drewN B3.out (n1 + n2)).set _
        · exact (pw_below_drewN HB.out (n1 + n2)).setCell (p := ⟨w.heap.size + 1 + 1, 0, none⟩) (by simp only; omega) _
      | false =>
        rw [hw] at hc2
        have HW := Aside0.mk hw
        clear hw
        gi_wp2_with (first | (refine ⟨trivial, ?_⟩; gi_at_call 92; refine (CallsIn.inRound l (callsIn_wide.2 hc1)).mono ?_; clear hc1; rintro e w' ⟨rfl, n1, rfl⟩) | (refine ⟨trivial, ?_⟩; gi_at_call 92; refine (CallsIn.inRound l (callsIn_wide.2 (hc2 n1))).mono ?_; clear hc2; rintro e w' ⟨rfl, n2, rfl⟩))
        exact ⟨keepsO_drewN W (n1 + n2), pw_below_drewN (Below.refl _ _) (n1 + n2), ⟨fun p hp' => (List.mem_append.1 hp').elim (HP.out p) (fun e => by simp at e; subst e; exact ⟨HS.out, HW.out⟩), bx_drewN B1.out (n1 + n2), bx_drewN B2.out (n1 + n2), bx_drewN B3.out (n1 + n2)⟩, pw_below_drewN HB.out (n1 + n2)⟩
  case done =>
    rintro D ys W hD rfl ⟨⟨hp, b1, b2, b3⟩, hB⟩ hK
    have HP := Aside0.mk hp
    have HB := Aside0.mk hB
    have HK := Aside0.mk hK
    have B3 := Aside0.mk b3
    have c3_ := b3.cell
    have f3_ := b3.frozen
    clear hp b1 b2 b3 hB hK
    gi_wp2
    have hK' := (KeepsOthers.setCell W ⟨w.heap.size + 1 + 1, 0, none⟩ (.int .i64 (-1))).same D _ HK.out rfl
    refine ⟨by simp, .inl ⟨_, _, rfl, run_takeDeferred hK', ?_⟩⟩
    have hc5 := cell_kept (B3.out.set (.int .i64 (-1))).cell (grownBy_putObj' _ D (.deferred none)) (fun r e => by cases e; exact ⟨_, hK', rfl⟩)
    refine ⟨.int .i64 (-1), ?_, by rw [found_all op so wa HP.out], (HB.out.setCell (p := ⟨w.heap.size + 1 + 1, 0, none⟩) (by simp only; omega) _).trans (belowK_b (w := w) (Nat.le_refl _) _ D _ _ (by omega) hK' rfl rfl)⟩
    simp [results, Tryd.f75, go_sem, hc5]
  case stop =>
    rintro D c pre W hD ⟨k, hk, rfl⟩ ⟨⟨rfl, ini, last, e1, e2, e3, b3⟩, hB⟩ hK
    have HB := Aside0.mk hB
    have HK := Aside0.mk hK
    have B3 := Aside0.mk b3
    have E1 := Aside0.mk e1
    have E2 := Aside0.mk e2
    have E3 := Aside0.mk e3
    clear hB hK b3 e1 e2 e3
    gi_wp2
    refine ⟨by simp, .inl ⟨_, _, rfl, run_takeDeferred HK.out, ?_⟩⟩
    have hc5 := cell_kept B3.out.cell (grownBy_putObj' _ D (.deferred none)) (fun r e => by cases e; exact ⟨_, HK.out, rfl⟩)
    have e1 := E1.out
    obtain ⟨k', rfl⟩ : ∃ k', k = k' + 1 := by
      cases k with
      | zero => simp [back] at e1
      | succ k' => exact ⟨k', rfl⟩
    rw [back_succ] at e1
    obtain ⟨rfl, e5⟩ := List.append_inj' e1 rfl
    obtain rfl : (((op.length : Int) - 1 - (k' : Int), op.getD (op.length - 1 - k') ⟨#[]⟩) : Int × ByteArray) = last := by simpa using e5
    refine ⟨.int .i64 (if hasB so (op.getD (op.length - 1 - k') ⟨#[]⟩) = true then (op.length : Int) - 1 - (k' : Int) else -1), ?_, ?_, HB.out.trans (belowK_b (w := w) (Nat.le_refl _) W D _ _ (by omega) HK.out rfl rfl)⟩
    · simp [results, Tryd.f75, go_sem, hc5]
    · rw [found_some op so wa k' (by omega) E2.out]
      rcases E3.out with h | h
      · rw [if_pos h, if_pos h]
      · by_cases h' : hasB so (op.getD (op.length - 1 - k') ⟨#[]⟩) = true
        · rw [if_pos h', if_pos h']
        · rw [if_neg h', if_neg h', if_pos h]
theorem build_found.calls (A0 : Option Addr) (c0 : Nat) (l0 : List ByteArray) (A1 : Option Addr) (c1 : Nat) (l1 : List ByteArray) (A2 : Option Addr) (c2 : Nat) (l2 : List ByteArray) (r : Int) (w : World) (hr0 : Kd.C Kd.string w A0 l0.length l0) (hc0 : l0.length ≤ c0) (hr1 : Kd.C Kd.string w A1 l1.length l1) (hc1 : l1.length ≤ c1) (hr2 : Kd.C Kd.string w A2 l2.length l2) (hc2 : l2.length ≤ c2) (h : build_found.f l0 l1 l2 = some r) :
    Calls Tryd.prog 75 #[.slice A0 l0.length c0, .slice A1 l1.length c1, .slice A2 l2.length c2] w fun e w' => e = .returned (.int .i64 r) ∧ Below w.heap.size w w' := by
  cases h
  exact callsIn_wide.1 (found_in A0 A1 A2 c0 c1 c2 l0 l1 l2 w hr0 hr1 hr2 hc1 hc2)
end Go.Proofs.YtpnhjipaeggcpaaDoor.X
end
section
namespace Go.Proofs.YtpnhjipaeggcpaaDoor.X
open Go.RowKit Go.Proofs.YtpnhjipaeggcpaaDoorW.PrintWords Go.Proofs.YtpnhjipaeggcpaaDoorW.PrintLast Go.Proofs.YtpnhjipaeggcpaaDoorW.PrintMore
attribute [local go_sem] max2_int min2_int max_two min_two max_three min_three max_four min_four
def build_Nested.f (k : Nat) (a0 : ByteArray) (l1 : List ByteArray) : Option (Bool) := (build_paragraph.f a0).bind fun t346 => (if t346 = true then ((names_Walls.f k (⟨#[112]⟩ : ByteArray)).bind fun t350 => ((build_found.f l1 (([(⟨#[112]⟩ : ByteArray)] : List ByteArray)) t350).bind fun t353 => (if t353 ≥ 0 then (some false) else ((names_Closes.f k a0).bind fun t354 => ((names_Walls.f k a0).bind fun t357 => ((build_found.f l1 t354 t357).bind fun t360 => (some (decide (t360 < 0))))))))) else ((names_Closes.f k a0).bind fun t361 => ((names_Walls.f k a0).bind fun t364 => ((build_found.f l1 t361 t364).bind fun t367 => (some (decide (t367 < 0)))))))
set_option maxHeartbeats 8000000 in
set_option maxRecDepth 100000 in
theorem build_Nested.calls (k : Nat) (a0 : ByteArray) (A1 : Option Addr) (c1 : Nat) (l1 : List ByteArray) (r : Bool) (w : World) (hr1 : Kd.C Kd.string w A1 l1.length l1) (hc1 : l1.length ≤ c1) (h : build_Nested.f k a0 l1 = some r) :
  Calls Tryd.prog 55 #[.string a0, .slice A1 l1.length c1] w fun e w' => e = .returned (.bool r) ∧ Below w.heap.size w w' := by
 have HR1 := Aside0.mk hr1
 have HC1 := Aside0.mk hc1
 clear hr1 hc1
 have HB := Aside0.mk (Below.refl w.heap.size w)
 have H : ((build_paragraph.f a0).bind fun t346 => (if t346 = true then ((names_Walls.f k (⟨#[112]⟩ : ByteArray)).bind fun t350 => ((build_found.f l1 (([(⟨#[112]⟩ : ByteArray)] : List ByteArray)) t350).bind fun t353 => (if t353 ≥ 0 then (some false) else ((names_Closes.f k a0).bind fun t354 => ((names_Walls.f k a0).bind fun t357 => ((build_found.f l1 t354 t357).bind fun t360 => (some (decide (t360 < 0))))))))) else ((names_Closes.f k a0).bind fun t361 => ((names_Walls.f k a0).bind fun t364 => ((build_found.f l1 t361 t364).bind fun t367 => (some (decide (t367 < 0)))))))) = some r := h
 clear h
 replace H := Option.bind_eq_some_iff.mp H
 obtain ⟨t346, A30, H⟩ := H
 have A3 := Aside0.mk A30
 clear A30
 by_cases c4 : t346 = true
 ·subst c4
  rw [if_pos rfl] at H
  obtain ⟨y347, hy347⟩ : ∃ y_ : List ByteArray, y_ = (([(⟨#[112]⟩ : ByteArray)] : List ByteArray)) := ⟨_, rfl⟩
  replace H : ((names_Walls.f k (⟨#[112]⟩ : ByteArray)).bind fun t350 => ((build_found.f l1 y347 t350).bind fun t353 => (if t353 ≥ 0 then (some false) else ((names_Closes.f k a0).bind fun t354 => ((names_Walls.f k a0).bind fun t357 => ((build_found.f l1 t354 t357).bind fun t360 => (some (decide (t360 < 0))))))))) = some r := by first | (rw [hy347]; with_reducible exact H) | (have H2_ := (Option.bind_some _ _).symm.trans H; rw [hy347]; with_reducible exact H2_) | (have H2_ := (Option.bind_some _ _).symm.trans H; with_reducible exact H2_) | with_reducible exact H | (rw [hy347]; exact H) | exact H
  have Ny347 := Aside0.mk hy347
  clear hy347
  replace H := Option.bind_eq_some_iff.mp H
  obtain ⟨t350, A50, H⟩ := H
  have A5 := Aside0.mk A50
  clear A50
  replace H := Option.bind_eq_some_iff.mp H
  obtain ⟨t353, A60, H⟩ := H
  have A6 := Aside0.mk A60
  clear A60
  by_cases c7 : t353 ≥ 0
  ·rw [if_pos c7] at H
   have c7b0 : decide (0 ≤ t353) = true := decide_eq_true c7
   clear c7
   obtain rfl := Option.some.inj H
   go_enter Tryd.func55, Tryd.ntmps55
   go_wp2_with (first | ((with_reducible refine gate_callee (f := 74) rfl ?_); refine goesL_ (some 7) rfl rfl Tryd.func74 (by kernel_rfl) rfl #[.string a0] rfl y14_ ?_; (with_reducible refine (build_paragraph.calls a0 true _ A3.out).mono ?_); rintro e w' ⟨rfl, ⟨nd, rfl⟩⟩; refine ⟨_, rfl, ?_⟩) | ((with_reducible refine gate_dst (N := 10) rfl ?_); (try (refine gate_guard (by rfl) ?_; dsimp only)); refine Kd.R_lit Kd.string _ 9 ?hg (N := 10) ?hd (xs := ([(⟨#[112]⟩ : ByteArray)] : List ByteArray)) (inner := [.string (⟨#[112]⟩ : ByteArray)]) (ok := fun _ => True) (okp := fun _ => True) ?hr ?hp (fun _ hk => hk) trivial (Below.refl _ _) (Nat.le_refl _) (by simp) ?_; (case hd => rfl); (case hg => rfl); (case hr => first | (go_simp; done) | (go_simp; rfl)); (case hp => exact (Reps.one (show Kd.M Kd.string _ _ _ (⟨#[112]⟩ : ByteArray) [.string (⟨#[112]⟩ : ByteArray)] from rfl) (Reps.none _ _))); intro v348 w8 ho9 hb hg_ hnew_; clear hg_ hnew_; (first | rw [← Ny347.out] at ho9 | (simp only [Int.reduceToNat] at ho9; rw [← Ny347.out] at ho9)); have n0_ := Aside0.mk (Kd.R_lower ho9 (below_size y13_)); have n1_ := Aside0.mk (below_step y13_ hb); clear HB; have HO349 := n0_; have HB := n1_; clear n0_ n1_; clear hb ho9) | (go_at_call 76; (with_reducible refine (names_Walls.calls k (⟨#[112]⟩ : ByteArray) t350 _ A5.out).mono ?_); rintro e w10 ⟨v351, rfl, ho0, hb⟩; have n0_ := Aside0.mk (Kd.R_elder' (y10_ HO349.out) (Kd.R_base ho0) hb); have n1_ := Aside0.mk (Kd.R_lower (Kd.R_new' ho0 (Kd.R_lt (y10_ HO349.out))) (below_size y13_)); have n2_ := Aside0.mk (below_step y13_ hb); clear HO349; clear HB; have HO349 := n0_; have HO352 := n1_; have HB := n2_; clear n0_ n1_ n2_; (try clear hb); (try clear hb2); (try clear hk); (try clear hi); (try clear ho0); obtain ⟨Ao11, co11, eo11⟩ := Kd.R_slice HO349.out; subst eo11; obtain ⟨Ao12, co12, eo12⟩ := Kd.R_slice HO352.out; subst eo12) | (go_at_call 75; (with_reducible refine (build_found.calls _ _ l1 _ _ y347 _ _ t350 t353 _ ?side1 ?side2 ?side3 ?side4 ?side5 ?side6 A6.out).mono ?_); (case side1 => repeat (first | exact (Kd.C_below HR1.out HB.out) | (with_reducible refine Kd.C_alloc ?_ _) | (with_reducible refine Kd.C_drewN ?_ _) | (with_reducible refine Kd.C_drew ?_))); (case side2 => exact HC1.out); (case side3 => repeat (first | exact (Kd.R_reads' HO349.out).2.2 | (with_reducible refine Kd.C_alloc ?_ _) | (with_reducible refine Kd.C_drewN ?_ _) | (with_reducible refine Kd.C_drew ?_))); (case side4 => exact (Kd.R_reads' HO349.out).2.1); (case side5 => repeat (first | exact (Kd.R_reads' HO352.out).2.2 | (with_reducible refine Kd.C_alloc ?_ _) | (with_reducible refine Kd.C_drewN ?_ _) | (with_reducible refine Kd.C_drew ?_))); (case side6 => exact (Kd.R_reads' HO352.out).2.1); rintro e w13 ⟨rfl, hb⟩; have n0_ := Aside0.mk (Kd.R_below (y10_ HO349.out) hb); have n1_ := Aside0.mk (Kd.R_below (y10_ HO352.out) hb); have n2_ := Aside0.mk (below_step y13_ hb); clear HO349; clear HO352; clear HB; have HO349 := n0_; have HO352 := n1_; have HB := n2_; clear n0_ n1_ n2_; (try clear hb); (try clear hb2); (try clear hk); (try clear hi)))
   go_ret
   exact ⟨y12_, y13_⟩
  ·rw [if_neg c7] at H
   have c7b0 : decide (0 ≤ t353) = false := decide_eq_false c7
   clear c7
   replace H := Option.bind_eq_some_iff.mp H
   obtain ⟨t354, A140, H⟩ := H
   have A14 := Aside0.mk A140
   clear A140
   replace H := Option.bind_eq_some_iff.mp H
   obtain ⟨t357, A150, H⟩ := H
   have A15 := Aside0.mk A150
   clear A150
   replace H := Option.bind_eq_some_iff.mp H
   obtain ⟨t360, A160, H⟩ := H
   have A16 := Aside0.mk A160
   clear A160
   obtain rfl := Option.some.inj H
   go_enter Tryd.func55, Tryd.ntmps55
   go_wp2_with (first | ((with_reducible refine gate_callee (f := 74) rfl ?_); refine goesL_ (some 7) rfl rfl Tryd.func74 (by kernel_rfl) rfl #[.string a0] rfl y14_ ?_; (with_reducible refine (build_paragraph.calls a0 true _ A3.out).mono ?_); rintro e w' ⟨rfl, ⟨nd, rfl⟩⟩; refine ⟨_, rfl, ?_⟩) | ((with_reducible refine gate_dst (N := 10) rfl ?_); (try (refine gate_guard (by rfl) ?_; dsimp only)); refine Kd.R_lit Kd.string _ 9 ?hg (N := 10) ?hd (xs := ([(⟨#[112]⟩ : ByteArray)] : List ByteArray)) (inner := [.string (⟨#[112]⟩ : ByteArray)]) (ok := fun _ => True) (okp := fun _ => True) ?hr ?hp (fun _ hk => hk) trivial (Below.refl _ _) (Nat.le_refl _) (by simp) ?_; (case hd => rfl); (case hg => rfl); (case hr => first | (go_simp; done) | (go_simp; rfl)); (case hp => exact (Reps.one (show Kd.M Kd.string _ _ _ (⟨#[112]⟩ : ByteArray) [.string (⟨#[112]⟩ : ByteArray)] from rfl) (Reps.none _ _))); intro v348 w17 ho18 hb hg_ hnew_; clear hg_ hnew_; (first | rw [← Ny347.out] at ho18 | (simp only [Int.reduceToNat] at ho18; rw [← Ny347.out] at ho18)); have n0_ := Aside0.mk (Kd.R_lower ho18 (below_size y13_)); have n1_ := Aside0.mk (below_step y13_ hb); clear HB; have HO349 := n0_; have HB := n1_; clear n0_ n1_; clear hb ho18) | (go_at_call 76; (with_reducible refine (names_Walls.calls k (⟨#[112]⟩ : ByteArray) t350 _ A5.out).mono ?_); rintro e w19 ⟨v351, rfl, ho0, hb⟩; have n0_ := Aside0.mk (Kd.R_elder' (y10_ HO349.out) (Kd.R_base ho0) hb); have n1_ := Aside0.mk (Kd.R_lower (Kd.R_new' ho0 (Kd.R_lt (y10_ HO349.out))) (below_size y13_)); have n2_ := Aside0.mk (below_step y13_ hb); clear HO349; clear HB; have HO349 := n0_; have HO352 := n1_; have HB := n2_; clear n0_ n1_ n2_; (try clear hb); (try clear hb2); (try clear hk); (try clear hi); (try clear ho0); obtain ⟨Ao20, co20, eo20⟩ := Kd.R_slice HO349.out; subst eo20; obtain ⟨Ao21, co21, eo21⟩ := Kd.R_slice HO352.out; subst eo21) | (go_at_call 75; (with_reducible refine (build_found.calls _ _ l1 _ _ y347 _ _ t350 t353 _ ?side1 ?side2 ?side3 ?side4 ?side5 ?side6 A6.out).mono ?_); (case side1 => repeat (first | exact (Kd.C_below HR1.out HB.out) | (with_reducible refine Kd.C_alloc ?_ _) | (with_reducible refine Kd.C_drewN ?_ _) | (with_reducible refine Kd.C_drew ?_))); (case side2 => exact HC1.out); (case side3 => repeat (first | exact (Kd.R_reads' HO349.out).2.2 | (with_reducible refine Kd.C_alloc ?_ _) | (with_reducible refine Kd.C_drewN ?_ _) | (with_reducible refine Kd.C_drew ?_))); (case side4 => exact (Kd.R_reads' HO349.out).2.1); (case side5 => repeat (first | exact (Kd.R_reads' HO352.out).2.2 | (with_reducible refine Kd.C_alloc ?_ _) | (with_reducible refine Kd.C_drewN ?_ _) | (with_reducible refine Kd.C_drew ?_))); (case side6 => exact (Kd.R_reads' HO352.out).2.1); rintro e w22 ⟨rfl, hb⟩; have n0_ := Aside0.mk (Kd.R_below (y10_ HO349.out) hb); have n1_ := Aside0.mk (Kd.R_below (y10_ HO352.out) hb); have n2_ := Aside0.mk (below_step y13_ hb); clear HO349; clear HO352; clear HB; have HO349 := n0_; have HO352 := n1_; have HB := n2_; clear n0_ n1_ n2_; (try clear hb); (try clear hb2); (try clear hk); (try clear hi)) | (go_at_call 77; (with_reducible refine (names_Closes.calls k a0 t354 _ A14.out).mono ?_); rintro e w23 ⟨v355, rfl, ho0, hb⟩; have n0_ := Aside0.mk (Kd.R_elder' (y10_ HO349.out) (Kd.R_base ho0) hb); have n1_ := Aside0.mk (Kd.R_elder' (y10_ HO352.out) (Kd.R_base ho0) hb); have n2_ := Aside0.mk (Kd.R_lower (Kd.R_new' (Kd.R_new' ho0 (Kd.R_lt (y10_ HO349.out))) (Kd.R_lt (y10_ HO352.out))) (below_size y13_)); have n3_ := Aside0.mk (below_step y13_ hb); clear HO349; clear HO352; clear HB; have HO349 := n0_; have HO352 := n1_; have HO356 := n2_; have HB := n3_; clear n0_ n1_ n2_ n3_; (try clear hb); (try clear hb2); (try clear hk); (try clear hi); (try clear ho0)) | (go_at_call 76; (with_reducible refine (names_Walls.calls k a0 t357 _ A15.out).mono ?_); rintro e w24 ⟨v358, rfl, ho0, hb⟩; have n0_ := Aside0.mk (Kd.R_elder' (y10_ HO349.out) (Kd.R_base ho0) hb); have n1_ := Aside0.mk (Kd.R_elder' (y10_ HO352.out) (Kd.R_base ho0) hb); have n2_ := Aside0.mk (Kd.R_elder' (y10_ HO356.out) (Kd.R_base ho0) hb); have n3_ := Aside0.mk (Kd.R_lower (Kd.R_new' (Kd.R_new' (Kd.R_new' ho0 (Kd.R_lt (y10_ HO349.out))) (Kd.R_lt (y10_ HO352.out))) (Kd.R_lt (y10_ HO356.out))) (below_size y13_)); have n4_ := Aside0.mk (below_step y13_ hb); clear HO349; clear HO352; clear HO356; clear HB; have HO349 := n0_; have HO352 := n1_; have HO356 := n2_; have HO359 := n3_; have HB := n4_; clear n0_ n1_ n2_ n3_ n4_; (try clear hb); (try clear hb2); (try clear hk); (try clear hi); (try clear ho0); obtain ⟨Ao25, co25, eo25⟩ := Kd.R_slice HO356.out; subst eo25; obtain ⟨Ao26, co26, eo26⟩ := Kd.R_slice HO359.out; subst eo26) | (go_at_call 75; (with_reducible refine (build_found.calls _ _ l1 _ _ t354 _ _ t357 t360 _ ?side1 ?side2 ?side3 ?side4 ?side5 ?side6 A16.out).mono ?_); (case side1 => repeat (first | exact (Kd.C_below HR1.out HB.out) | (with_reducible refine Kd.C_alloc ?_ _) | (with_reducible refine Kd.C_drewN ?_ _) | (with_reducible refine Kd.C_drew ?_))); (case side2 => exact HC1.out); (case side3 => repeat (first | exact (Kd.R_reads' HO356.out).2.2 | (with_reducible refine Kd.C_alloc ?_ _) | (with_reducible refine Kd.C_drewN ?_ _) | (with_reducible refine Kd.C_drew ?_))); (case side4 => exact (Kd.R_reads' HO356.out).2.1); (case side5 => repeat (first | exact (Kd.R_reads' HO359.out).2.2 | (with_reducible refine Kd.C_alloc ?_ _) | (with_reducible refine Kd.C_drewN ?_ _) | (with_reducible refine Kd.C_drew ?_))); (case side6 => exact (Kd.R_reads' HO359.out).2.1); rintro e w27 ⟨rfl, hb⟩; have n0_ := Aside0.mk (Kd.R_below (y10_ HO349.out) hb); have n1_ := Aside0.mk (Kd.R_below (y10_ HO352.out) hb); have n2_ := Aside0.mk (Kd.R_below (y10_ HO356.out) hb); have n3_ := Aside0.mk (Kd.R_below (y10_ HO359.out) hb); have n4_ := Aside0.mk (below_step y13_ hb); clear HO349; clear HO352; clear HO356; clear HO359; clear HB; have HO349 := n0_; have HO352 := n1_; have HO356 := n2_; have HO359 := n3_; have HB := n4_; clear n0_ n1_ n2_ n3_ n4_; (try clear hb); (try clear hb2); (try clear hk); (try clear hi)))
   go_ret
   exact ⟨y12_, y13_⟩
 ·replace c4 := Bool.eq_false_iff.mpr c4
  subst c4
  rw [if_neg (show ¬ (false = true) by decide)] at H
  replace H := Option.bind_eq_some_iff.mp H
  obtain ⟨t361, A280, H⟩ := H
  have A28 := Aside0.mk A280
  clear A280
  replace H := Option.bind_eq_some_iff.mp H
  obtain ⟨t364, A290, H⟩ := H
  have A29 := Aside0.mk A290
  clear A290
  replace H := Option.bind_eq_some_iff.mp H
  obtain ⟨t367, A300, H⟩ := H
  have A30 := Aside0.mk A300
  clear A300
  obtain rfl := Option.some.inj H
  go_enter Tryd.func55, Tryd.ntmps55
  go_wp2_with (first | ((with_reducible refine gate_callee (f := 74) rfl ?_); refine goesL_ (some 7) rfl rfl Tryd.func74 (by kernel_rfl) rfl #[.string a0] rfl y14_ ?_; (with_reducible refine (build_paragraph.calls a0 false _ A3.out).mono ?_); rintro e w' ⟨rfl, ⟨nd, rfl⟩⟩; refine ⟨_, rfl, ?_⟩) | (go_at_call 77; (with_reducible refine (names_Closes.calls k a0 t361 _ A28.out).mono ?_); rintro e w31 ⟨v362, rfl, ho0, hb⟩; have n0_ := Aside0.mk (Kd.R_lower ho0 (below_size y13_)); have n1_ := Aside0.mk (below_step y13_ hb); clear HB; have HO363 := n0_; have HB := n1_; clear n0_ n1_; (try clear hb); (try clear hb2); (try clear hk); (try clear hi); (try clear ho0)) | (go_at_call 76; (with_reducible refine (names_Walls.calls k a0 t364 _ A29.out).mono ?_); rintro e w32 ⟨v365, rfl, ho0, hb⟩; have n0_ := Aside0.mk (Kd.R_elder' (y10_ HO363.out) (Kd.R_base ho0) hb); have n1_ := Aside0.mk (Kd.R_lower (Kd.R_new' ho0 (Kd.R_lt (y10_ HO363.out))) (below_size y13_)); have n2_ := Aside0.mk (below_step y13_ hb); clear HO363; clear HB; have HO363 := n0_; have HO366 := n1_; have HB := n2_; clear n0_ n1_ n2_; (try clear hb); (try clear hb2); (try clear hk); (try clear hi); (try clear ho0); obtain ⟨Ao33, co33, eo33⟩ := Kd.R_slice HO363.out; subst eo33; obtain ⟨Ao34, co34, eo34⟩ := Kd.R_slice HO366.out; subst eo34) | (go_at_call 75; (with_reducible refine (build_found.calls _ _ l1 _ _ t361 _ _ t364 t367 _ ?side1 ?side2 ?side3 ?side4 ?side5 ?side6 A30.out).mono ?_); (case side1 => repeat (first | exact (Kd.C_below HR1.out HB.out) | (with_reducible refine Kd.C_alloc ?_ _) | (with_reducible refine Kd.C_drewN ?_ _) | (with_reducible refine Kd.C_drew ?_))); (case side2 => exact HC1.out); (case side3 => repeat (first | exact (Kd.R_reads' HO363.out).2.2 | (with_reducible refine Kd.C_alloc ?_ _) | (with_reducible refine Kd.C_drewN ?_ _) | (with_reducible refine Kd.C_drew ?_))); (case side4 => exact (Kd.R_reads' HO363.out).2.1); (case side5 => repeat (first | exact (Kd.R_reads' HO366.out).2.2 | (with_reducible refine Kd.C_alloc ?_ _) | (with_reducible refine Kd.C_drewN ?_ _) | (with_reducible refine Kd.C_drew ?_))); (case side6 => exact (Kd.R_reads' HO366.out).2.1); rintro e w35 ⟨rfl, hb⟩; have n0_ := Aside0.mk (Kd.R_below (y10_ HO363.out) hb); have n1_ := Aside0.mk (Kd.R_below (y10_ HO366.out) hb); have n2_ := Aside0.mk (below_step y13_ hb); clear HO363; clear HO366; clear HB; have HO363 := n0_; have HO366 := n1_; have HB := n2_; clear n0_ n1_ n2_; (try clear hb); (try clear hb2); (try clear hk); (try clear hi)))
  go_ret
  exact ⟨y12_, y13_⟩
end Go.Proofs.YtpnhjipaeggcpaaDoor.X
end
section
namespace Go.Proofs.YtpnhjipaeggcpaaDoor.X
open Go.RowKit Go.Proofs.YtpnhjipaeggcpaaDoorW.PrintWords Go.Proofs.YtpnhjipaeggcpaaDoorW.PrintLast Go.Proofs.YtpnhjipaeggcpaaDoorW.PrintMore
attribute [local go_sem] max2_int min2_int max_two min_two max_three min_three max_four min_four
def names_Attr.f (k : Nat) (a0 : ByteArray) : Option (Bool) := (names_plain.f k a0 (⟨#[47, 62, 34, 39, 60, 61]⟩ : ByteArray)).bind fun t368 => (some t368)
set_option maxHeartbeats 8000000 in
set_option maxRecDepth 100000 in
theorem names_Attr.calls (k : Nat) (a0 : ByteArray) (r : Bool) (w : World) (h : names_Attr.f k a0 = some r) :
  Calls Tryd.prog 56 #[.string a0] w fun e w' => e = .returned (.bool r) ∧ Drawn0 w w' := by
 have H : ((names_plain.f k a0 (⟨#[47, 62, 34, 39, 60, 61]⟩ : ByteArray)).bind fun t368 => (some t368)) = some r := h
 clear h
 replace H := Option.bind_eq_some_iff.mp H
 obtain ⟨t368, A20, H⟩ := H
 have A2 := Aside0.mk A20
 clear A20
 obtain rfl := Option.some.inj H
 go_enter Tryd.func56, Tryd.ntmps56
 go_wp2_with (first | ((with_reducible refine gate_callee (f := 72) rfl ?_); refine goesL_ (some 4) rfl rfl Tryd.func72 (by kernel_rfl) rfl #[.string a0, .string (⟨#[47, 62, 34, 39, 60, 61]⟩ : ByteArray)] rfl y14_ ?_; (with_reducible refine (names_plain.calls k a0 (⟨#[47, 62, 34, 39, 60, 61]⟩ : ByteArray) t368 _ A2.out).mono ?_); rintro e w' ⟨rfl, ⟨nd, rfl⟩⟩; refine ⟨_, rfl, ?_⟩))
 go_ret
 exact ⟨y4_, y3_⟩
end Go.Proofs.YtpnhjipaeggcpaaDoor.X
end
section
namespace Go.Proofs.YtpnhjipaeggcpaaDoor.X
open Go.RowKit Go.Proofs.YtpnhjipaeggcpaaDoorW.PrintWords Go.Proofs.YtpnhjipaeggcpaaDoorW.PrintLast Go.Proofs.YtpnhjipaeggcpaaDoorW.PrintMore
attribute [local go_sem] max2_int min2_int max_two min_two max_three min_three max_four min_four
def names_Soft.f (k : Nat) (a0 : ByteArray) : Option (Bool) := (names_among.f k a0 (([(⟨#[116, 101, 120, 116, 97, 114, 101, 97]⟩ : ByteArray), (⟨#[116, 105, 116, 108, 101]⟩ : ByteArray)] : List ByteArray))).bind fun t386 => (some t386)
set_option maxHeartbeats 8000000 in
set_option maxRecDepth 100000 in
theorem names_Soft.calls (k : Nat) (a0 : ByteArray) (r : Bool) (w : World) (h : names_Soft.f k a0 = some r) :
  Calls Tryd.prog 57 #[.string a0] w fun e w' => e = .returned (.bool r) ∧ Below w.heap.size w w' := by
 have HB := Aside0.mk (Below.refl w.heap.size w)
 have H : ((names_among.f k a0 (([(⟨#[116, 101, 120, 116, 97, 114, 101, 97]⟩ : ByteArray), (⟨#[116, 105, 116, 108, 101]⟩ : ByteArray)] : List ByteArray))).bind fun t386 => (some t386)) = some r := h
 clear h
 obtain ⟨y383, hy383⟩ : ∃ y_ : List ByteArray, y_ = (([(⟨#[116, 101, 120, 116, 97, 114, 101, 97]⟩ : ByteArray), (⟨#[116, 105, 116, 108, 101]⟩ : ByteArray)] : List ByteArray)) := ⟨_, rfl⟩
 replace H : ((names_among.f k a0 y383).bind fun t386 => (some t386)) = some r := by first | (rw [hy383]; with_reducible exact H) | (have H2_ := (Option.bind_some _ _).symm.trans H; rw [hy383]; with_reducible exact H2_) | (have H2_ := (Option.bind_some _ _).symm.trans H; with_reducible exact H2_) | with_reducible exact H | (rw [hy383]; exact H) | exact H
 have Ny383 := Aside0.mk hy383
 clear hy383
 replace H := Option.bind_eq_some_iff.mp H
 obtain ⟨t386, A20, H⟩ := H
 have A2 := Aside0.mk A20
 clear A20
 obtain rfl := Option.some.inj H
 go_enter Tryd.func57, Tryd.ntmps57
 go_wp2_with (first | ((with_reducible refine gate_dst (N := 4) rfl ?_); refine Kd.R_lit Kd.string _ 9 ?hg (N := 4) ?hd (xs := ([(⟨#[116, 101, 120, 116, 97, 114, 101, 97]⟩ : ByteArray), (⟨#[116, 105, 116, 108, 101]⟩ : ByteArray)] : List ByteArray)) (inner := [.string (⟨#[116, 101, 120, 116, 97, 114, 101, 97]⟩ : ByteArray), .string (⟨#[116, 105, 116, 108, 101]⟩ : ByteArray)]) (ok := fun _ => True) (okp := fun _ => True) ?hr ?hp (fun _ hk => hk) trivial (Below.refl _ _) (Nat.le_refl _) (by simp) ?_; (case hd => rfl); (case hg => rfl); (case hr => first | (go_simp; done) | (go_simp; rfl)); (case hp => exact (Reps.one (show Kd.M Kd.string _ _ _ (⟨#[116, 101, 120, 116, 97, 114, 101, 97]⟩ : ByteArray) [.string (⟨#[116, 101, 120, 116, 97, 114, 101, 97]⟩ : ByteArray)] from rfl) (Reps.one (show Kd.M Kd.string _ _ _ (⟨#[116, 105, 116, 108, 101]⟩ : ByteArray) [.string (⟨#[116, 105, 116, 108, 101]⟩ : ByteArray)] from rfl) (Reps.none _ _)))); intro v384 w3 ho4 hb hg_ hnew_; clear hg_ hnew_; (first | rw [← Ny383.out] at ho4 | (simp only [Int.reduceToNat] at ho4; rw [← Ny383.out] at ho4)); have n0_ := Aside0.mk (Kd.R_lower ho4 (below_size y13_)); have n1_ := Aside0.mk (below_step y13_ hb); clear HB; have HO385 := n0_; have HB := n1_; clear n0_ n1_; clear hb ho4; obtain ⟨Ao5, co5, eo5⟩ := Kd.R_slice HO385.out; subst eo5) | ((with_reducible refine gate_callee (f := 42) rfl ?_); refine goesL_ (some 5) rfl rfl Tryd.func42 (by kernel_rfl) rfl #[.string a0, .slice Ao5 y383.length co5] rfl y14_ ?_; (with_reducible refine (names_among.calls k a0 _ _ y383 t386 _ ?side1 ?side2 A2.out).mono ?_); (case side1 => repeat (first | exact (Kd.R_reads' HO385.out).2.2 | (with_reducible refine Kd.C_alloc ?_ _) | (with_reducible refine Kd.C_drewN ?_ _) | (with_reducible refine Kd.C_drew ?_))); (case side2 => exact (Kd.R_reads' HO385.out).2.1); rintro e w' ⟨rfl, ⟨nd, rfl⟩⟩; refine ⟨_, rfl, ?_⟩))
 go_ret
 exact ⟨y12_, y13_⟩
end Go.Proofs.YtpnhjipaeggcpaaDoor.X
end
section
namespace Go.Proofs.YtpnhjipaeggcpaaDoor.X
open Go.RowKit Go.Proofs.YtpnhjipaeggcpaaDoorW.PrintWords Go.Proofs.YtpnhjipaeggcpaaDoorW.PrintLast Go.Proofs.YtpnhjipaeggcpaaDoorW.PrintMore
attribute [local go_sem] max2_int min2_int max_two min_two max_three min_three max_four min_four
def stringslite_HasSuffix.f (a0 : ByteArray) (a1 : ByteArray) : Option (Bool) := if (a0.size : Int) ≥ (a1.size : Int) then (if 0 ≤ (wrap64 ((a0.size : Int) - (a1.size : Int))) then (if (wrap64 ((a0.size : Int) - (a1.size : Int))) ≤ (a0.size : Int) then (some ((a0.extract ((wrap64 ((a0.size : Int) - (a1.size : Int))) : Int).toNat a0.size).toList == a1.toList)) else (none)) else (none)) else (some false)
set_option maxHeartbeats 8000000 in
set_option maxRecDepth 100000 in
theorem stringslite_HasSuffix.calls (a0 : ByteArray) (a1 : ByteArray) (r : Bool) (w : World) (h : stringslite_HasSuffix.f a0 a1 = some r) :
  Calls Tryd.prog 78 #[.string a0, .string a1] w fun e w' => e = .returned (.bool r) ∧ Drawn0 w w' := by
 have H : (if (a0.size : Int) ≥ (a1.size : Int) then (if 0 ≤ (wrap64 ((a0.size : Int) - (a1.size : Int))) then (if (wrap64 ((a0.size : Int) - (a1.size : Int))) ≤ (a0.size : Int) then (some ((a0.extract ((wrap64 ((a0.size : Int) - (a1.size : Int))) : Int).toNat a0.size).toList == a1.toList)) else (none)) else (none)) else (some false)) = some r := h
 clear h
 by_cases c3 : (a0.size : Int) ≥ (a1.size : Int)
 ·rw [if_pos c3] at H
  have c3b0 : decide ((a1.size : Int) ≤ (a0.size : Int)) = true := decide_eq_true c3
  have c3b1 : decide (a1.size ≤ a0.size) = true := decide_eq_true (Int.ofNat_le.mp c3)
  clear c3
  obtain ⟨ji4, hji4⟩ : ∃ j_ : Int, (wrap64 ((a0.size : Int) - (a1.size : Int))) = j_ := ⟨_, rfl⟩
  replace H : (if 0 ≤ (ji4) then (if (ji4) ≤ (a0.size : Int) then (some ((a0.extract ((ji4) : Int).toNat a0.size).toList == a1.toList)) else (none)) else (none)) = some r := by first | (rw [hji4] at H; exact H) | (simp only [hji4] at H ⊢; exact H)
  have hji4w : (IntKind.i64.wrap ((a0.size : Int) - (a1.size : Int))) = ji4 := (i64_w _).trans hji4
  by_cases c5 : 0 ≤ (ji4)
  rotate_left
  ·rw [if_neg c5] at H
   exact absurd H (by simp)
  rw [if_pos c5] at H
  have c5b0 := eq_true c5
  have c5b1 : decide (0 ≤ (ji4)) = true := decide_eq_true c5
  clear c5
  by_cases c6 : (ji4) ≤ (a0.size : Int)
  rotate_left
  ·rw [if_neg c6] at H
   exact absurd H (by simp)
  rw [if_pos c6] at H
  have c6b0 := eq_true c6
  have c6b1 : decide ((ji4) ≤ (a0.size : Int)) = true := decide_eq_true c6
  clear c6
  obtain rfl := Option.some.inj H
  go_enter Tryd.func78, Tryd.ntmps78
  go_wp2
  go_ret
  exact ⟨by first | rfl | (simp; done) | (simp only [← hji4] <;> (first | rfl | simp)) | (simp [*]; done) | (simp [bne_nil8]; done), y3_⟩
 ·rw [if_neg c3] at H
  have c3b0 : decide ((a1.size : Int) ≤ (a0.size : Int)) = false := decide_eq_false c3
  have c3b1 : decide (a1.size ≤ a0.size) = false := decide_eq_false (fun h => c3 (Int.ofNat_le.mpr h))
  clear c3
  obtain rfl := Option.some.inj H
  go_enter Tryd.func78, Tryd.ntmps78
  go_wp2
  go_ret
  exact ⟨y4_, y3_⟩
end Go.Proofs.YtpnhjipaeggcpaaDoor.X
end
section
namespace Go.Proofs.YtpnhjipaeggcpaaDoor.X
open Go.RowKit Go.Proofs.YtpnhjipaeggcpaaDoorW.PrintWords Go.Proofs.YtpnhjipaeggcpaaDoorW.PrintLast Go.Proofs.YtpnhjipaeggcpaaDoorW.PrintMore
attribute [local go_sem] max2_int min2_int max_two min_two max_three min_three max_four min_four
def strings_HasSuffix.f (a0 : ByteArray) (a1 : ByteArray) : Option (Bool) := (stringslite_HasSuffix.f a0 a1).bind fun t387 => (some t387)
set_option maxHeartbeats 8000000 in
set_option maxRecDepth 100000 in
theorem strings_HasSuffix.calls (a0 : ByteArray) (a1 : ByteArray) (r : Bool) (w : World) (h : strings_HasSuffix.f a0 a1 = some r) :
  Calls Tryd.prog 58 #[.string a0, .string a1] w fun e w' => e = .returned (.bool r) ∧ Drawn0 w w' := by
 have H : ((stringslite_HasSuffix.f a0 a1).bind fun t387 => (some t387)) = some r := h
 clear h
 replace H := Option.bind_eq_some_iff.mp H
 obtain ⟨t387, A30, H⟩ := H
 have A3 := Aside0.mk A30
 clear A30
 obtain rfl := Option.some.inj H
 go_enter Tryd.func58, Tryd.ntmps58
 go_wp2_with (first | ((with_reducible refine gate_callee (f := 78) rfl ?_); refine goesL_ (some 7) rfl rfl Tryd.func78 (by kernel_rfl) rfl #[.string a0, .string a1] rfl y14_ ?_; (with_reducible refine (stringslite_HasSuffix.calls a0 a1 t387 _ A3.out).mono ?_); rintro e w' ⟨rfl, ⟨nd, rfl⟩⟩; refine ⟨_, rfl, ?_⟩))
 go_ret
 exact ⟨y4_, y3_⟩
end Go.Proofs.YtpnhjipaeggcpaaDoor.X
end
section
namespace Go.Proofs.YtpnhjipaeggcpaaDoor.X
open Go.RowKit Go.Proofs.YtpnhjipaeggcpaaDoorW.PrintWords Go.Proofs.YtpnhjipaeggcpaaDoorW.PrintLast Go.Proofs.YtpnhjipaeggcpaaDoorW.PrintMore
def slices_Clone_Attr.f (l0 : List S41) : Option (List S41) := if l0.length < 4398046511104 then some l0 else none
theorem clone_none {w : World} {n : Nat} {l : List S41} (h : Kd.C k41 w none n l) : l = [] := by
  cases l with
  | nil => rfl
  | cons x t =>
    obtain ⟨ad, e, _⟩ := attr_at h (k := 0) (x := x) rfl
    cases e
set_option maxHeartbeats 4000000 in
set_option maxRecDepth 100000 in
theorem slices_Clone_Attr.calls (A0 : Option Addr) (c0 : Nat) (l0 : List S41) (r : List S41) (w : World) (hr0 : Kd.C k41 w A0 l0.length l0) (hc0 : l0.length ≤ c0) (h : slices_Clone_Attr.f l0 = some r) :
    Calls Tryd.prog 67 #[.slice A0 l0.length c0] w fun e w' => ∃ v0_ : Value, e = .returned v0_ ∧ Kd.R k41 41 w' w.heap.size (fun _ => True) v0_ r ∧ Below w.heap.size w w' := by
  unfold slices_Clone_Attr.f at h
  split at h
  case isFalse => cases h
  rename_i hlen
  cases h
  have hq : ∀ (w : World) (a : Option Addr) (n c n' c' : Nat), (binOp .eql 33 (.slice a n c) (.slice none n' c')).run Tryd.prog w = .ok (.bool a.isNone) w := fun w a n c n' c' => Lib.run_eql_slice_nil w _ _ a n c n' c' Tryd.underlying33
  cases A0 with
  | none =>
    have e0 := clone_none hr0
    subst e0
    go_enter Tryd.func67, Tryd.ntmps67
    go_wp2
    go_ret
    exact ⟨_, rfl, Kd.R_nil _ _ _ _ _, Below.refl _ _⟩
  | some ad =>
    have HR := Aside0.mk hr0
    have HB := Aside0.mk (Below.refl w.heap.size w)
    clear hr0
    go_enter Tryd.func67, Tryd.ntmps67
    go_wp2_with (first
      | ((with_reducible refine gate_dst (N := 5) rfl ?_); refine Kd.R_lit k41 _ 41 ?hg (N := 5) ?hd (xs := ([] : List (S41))) (inner := []) (ok := fun _ => True) (okp := fun _ => True) ?hr ?hp (fun _ hk => hk) trivial (Below.refl _ _) (Nat.le_refl _) (by simp) ?_; (case hd => rfl); (case hg => rfl); (case hr => first | (go_simp; done) | (go_simp; rfl)); (case hp => exact (Reps.none _ _)); intro v426 w11 ho12 hb hg_ hnew_; have n0_ := Aside0.mk (below_step HB.out hb); have HO := Aside0.mk (Kd.R_lower ho12 (below_size HB.out)); clear HB; have HB := n0_; clear n0_ ho12 hb hg_ hnew_)
      | ((with_reducible refine gate_builtin (b := .append) (xs := #[.tmp 5, .tmp 6]) rfl ?_); at_builtin; refine Kd.R_append_rows k41 (w0 := w) w.heap.size rfl (.tmp 5) (.tmp 6) 33 41 (.agg #[(.string ⟨#[]⟩), (.string ⟨#[]⟩)]) 32 rfl Tryd.underlying33 info41 rfl (by decide) (by omega) v426 [] l0 _ _ _ (fun _ => True) (fun _ => False) rfl rfl ?aO ?aR (fun _ _ h => h) (fun _ h => h.elim) ?aF ?aB ?aS ?aL ?_; (case aR => exact Kd.C_below HR.out HB.out); (case aB => exact HB.out); (case aF => exact (fun _ _ => trivial)); (case aO => exact HO.out); (case aS => exact below_size HB.out); (case aL => simp; omega); intro v429 w14 ho hb hg hat))
    go_ret
    exact ⟨_, rfl, ho, hb⟩
end Go.Proofs.YtpnhjipaeggcpaaDoor.X
end
section
namespace Go.Proofs.YtpnhjipaeggcpaaDoor.X
open Go.RowKit Go.Proofs.YtpnhjipaeggcpaaDoorW.PrintWords Go.Proofs.YtpnhjipaeggcpaaDoorW.PrintLast Go.Proofs.YtpnhjipaeggcpaaDoorW.PrintMore
attribute [local go_sem] max2_int min2_int max_two min_two max_three min_three max_four min_four
def rows_moved.l0 : Nat → Int → List (S35) → List (S35) → Int → Int → Option ((List (S35)))
 | 0, _, _, _, _, _ => none
 | k + 1, x1, x5, x8, x9, x10 => if x10 < x9 then (if 0 ≤ x10 then (if x10 < (x8.length : Int) then ((slices_Clone_Attr.f ((rd_T35 x8 x10).f4)).bind fun t454 => (if x5.length < 1954687338268 then (rows_moved.l0 k x1 (x5 ++ [(⟨wrap64 (((rd_T35 x8 x10).f0) + x1), (rd_T35 x8 x10).f1, (rd_T35 x8 x10).f2, (rd_T35 x8 x10).f3, t454⟩ : S35)]) x8 x9 (wrap64 (x10 + 1))) else (none))) else (none)) else (none)) else (some x5)
def rows_moved.f (k : Nat) (l0 : List (S35)) (a1 : Int) : Option ((List (S35))) := rows_moved.l0 k a1 ([] : List (S35)) l0 (l0.length : Int) 0
set_option maxHeartbeats 8000000 in
set_option maxRecDepth 100000 in
theorem rows_moved.calls (k : Nat) (A0 : Option Addr) (c0 : Nat) (l0 : List (S35)) (a1 : Int) (r : List (S35)) (w : World) (hr0 : Kd.C k35 w A0 l0.length l0) (hc0 : l0.length ≤ c0) (h : rows_moved.f k l0 a1 = some r) :
  Calls Tryd.prog 48 #[.slice A0 l0.length c0, .int .i64 a1] w fun e w' => ∃ v0_ : Value, e = .returned (v0_) ∧ Kd.S k35 35 w' w.heap.size (fun _ => True) v0_ r ∧ Below w.heap.size w w' := by
 have hu35 := Tryd.underlying35
 have HR0 := Aside0.mk hr0
 have HC0 := Aside0.mk hc0
 clear hr0 hc0
 have HB := Aside0.mk (Below.refl w.heap.size w)
 have H : (rows_moved.l0 k a1 ([] : List (S35)) l0 (l0.length : Int) 0) = some r := h
 clear h
 have H' := Aside0.mk H
 clear H
 go_enter Tryd.func48, Tryd.ntmps48
 go_wp2
 go_loopg [5, 10] k (fun kq v5 v10 w' => ∃ (x5_1 : List (S35)) (x10_1 : Int), v10 = .int .i64 x10_1 ∧ Aside0 (rows_moved.l0 kq a1 x5_1 l0 (l0.length : Int) x10_1 = some r) ∧ Aside0 (kq ≤ k) ∧ Aside0 (Kd.S k35 35 w' w.heap.size (fun _ => True) v5 x5_1) ∧ Aside0 (Below w.heap.size w w'))
 case atStart => exact ⟨(([] : List (S35))), (0), y4_, H', ⟨Nat.le_refl _⟩, ⟨by first | exact Kd.S_nil _ _ _ _ _ | exact Kd.N_nil _ _ _ _ _ | exact Kd.V_nil _ _ _ _ _ | exact Kd.Q_nil _ _ _ _ _ | exact Kd.R_nil _ _ _ _ _⟩, ⟨y13_⟩⟩
 case round =>
  clear H'
  try clear p2
  obtain ⟨x5_1, x10_1, rfl, HA, HK1, HO_5, HB⟩ := hrel
  cases gk with
  | zero => exact absurd HA.out (by simp [rows_moved.l0])
  | succ k1 =>
   have H := HA.out
   clear HA
   simp only [rows_moved.l0] at H
   by_cases c3 : x10_1 < (l0.length : Int)
   ·rw [if_pos c3] at H
    have c3b0 : decide (x10_1 < (l0.length : Int)) = true := decide_eq_true c3
    clear c3
    by_cases c4 : 0 ≤ x10_1
    rotate_left
    ·rw [if_neg c4] at H
     exact absurd H (by simp)
    rw [if_pos c4] at H
    have c4b0 : decide (0 ≤ x10_1) = true := decide_eq_true c4
    clear c4
    by_cases c5 : x10_1 < (l0.length : Int)
    rotate_left
    ·rw [if_neg c5] at H
     exact absurd H (by simp)
    rw [if_pos c5] at H
    have c5b0 : decide (x10_1 < (l0.length : Int)) = true := decide_eq_true c5
    clear c5
    replace H := Option.bind_eq_some_iff.mp H
    obtain ⟨t454, A60, H⟩ := H
    have A6 := Aside0.mk A60
    clear A60
    by_cases c7 : x5_1.length < 1954687338268
    rotate_left
    ·rw [if_neg c7] at H
     exact absurd H (by simp)
    rw [if_pos c7] at H
    have LMc7 := Aside0.mk c7
    clear c7
    obtain ⟨y457, hy457⟩ : ∃ y_ : List (S35), y_ = (x5_1 ++ [(⟨wrap64 (((rd_T35 l0 x10_1).f0) + a1), (rd_T35 l0 x10_1).f1, (rd_T35 l0 x10_1).f2, (rd_T35 l0 x10_1).f3, t454⟩ : S35)]) := ⟨_, rfl⟩
    replace H : (rows_moved.l0 k1 a1 y457 l0 (l0.length : Int) (wrap64 (x10_1 + 1))) = some r := by first | (rw [hy457]; with_reducible exact H) | (have H2_ := (Option.bind_some _ _).symm.trans H; rw [hy457]; with_reducible exact H2_) | (have H2_ := (Option.bind_some _ _).symm.trans H; with_reducible exact H2_) | with_reducible exact H | (rw [hy457]; exact H) | exact H
    have Ny457 := Aside0.mk hy457
    clear hy457
    have H' := Aside0.mk H
    clear H
    have p452 : 0 ≤ (x10_1 : Int) := of_decide_eq_true y2_
    have q452 : x10_1 < (l0.length : Int) := of_decide_eq_true y2_
    obtain ⟨ad452, A452_4, c452_4, e452, hx452_0, hx452_1, hx452_2, hx452_3, hx452_4, hl452_4, hi452_4⟩ := at_T35 HR0.out x10_1 p452 q452
    cases e452
    replace hx452_0 := (HB.out.cell (World.block_lt_of_cell? w _ hx452_0)).trans hx452_0
    replace hx452_1 := (HB.out.cell (World.block_lt_of_cell? w _ hx452_1)).trans hx452_1
    replace hx452_2 := (HB.out.cell (World.block_lt_of_cell? w _ hx452_2)).trans hx452_2
    replace hx452_3 := (HB.out.cell (World.block_lt_of_cell? w _ hx452_3)).trans hx452_3
    replace hx452_4 := (HB.out.cell (World.block_lt_of_cell? w _ hx452_4)).trans hx452_4
    have HR452_4 := Aside0.mk hi452_4
    have HC452_4 := Aside0.mk hl452_4
    clear hi452_4 hl452_4
    replace p452 := eq_true p452
    replace q452 := eq_true q452
    go_wp2_with (first | ((with_reducible refine gate_dst (N := 7) rfl ?_); refine box_event ?hg (N := 7) ?hd (cs := #[.int .i64 0, .int .i64 0, .string (⟨#[]⟩ : ByteArray), .string (⟨#[]⟩ : ByteArray), .slice none 0 0]) (t := 35) ?hr ?_; (case hd => rfl); (case hg => rfl); (case hr => first | (go_simp; done) | (go_simp; rfl)); intro gb453 hg w8 hbox hb; have n0_ := Aside0.mk (Kd.S_below (Kd.S_elderB (y9_ HO_5.out) gb453 (Nat.le_of_eq hg.symm)) hb); have n1_ := Aside0.mk (below_step y13_ hb); have n2_ := Aside0.mk (hbox); have n3_ := Aside0.mk ((by rw [hg]; exact (below_size y13_) : w.heap.size ≤ gb453)); have n4_ := Aside0.mk ((by rw [hg]; exact (below_size y13_) : w.heap.size ≤ gb453)); clear HO_5; clear HB; have HO_5 := n0_; have HB := n1_; have BK453 := n2_; have GW453 := n3_; have GE453 := n4_; clear n0_ n1_ n2_ n3_ n4_; clear hb hbox hg; have hcz9_0 : w8.cell? ⟨gb453, 0, none⟩ = some (.int .i64 0) := (blk_cell BK453.out 0).trans rfl; have hcz9_1 : w8.cell? ⟨gb453, 1, none⟩ = some (.int .i64 0) := (blk_cell BK453.out 1).trans rfl; have hcz9_2 : w8.cell? ⟨gb453, 2, none⟩ = some (.string (⟨#[]⟩ : ByteArray)) := (blk_cell BK453.out 2).trans rfl; have hcz9_3 : w8.cell? ⟨gb453, 3, none⟩ = some (.string (⟨#[]⟩ : ByteArray)) := (blk_cell BK453.out 3).trans rfl; have hcz9_4 : w8.cell? ⟨gb453, 4, none⟩ = some (.slice none 0 0) := (blk_cell BK453.out 4).trans rfl; have hfz9_0 := blk_frozen BK453.out 0; have hfz9_1 := blk_frozen BK453.out 1; have hfz9_2 := blk_frozen BK453.out 2; have hfz9_3 := blk_frozen BK453.out 3; have hfz9_4 := blk_frozen BK453.out 4) | ((with_reducible refine gate_callee (f := 67) rfl ?_); refine goesL_ (some 21) rfl rfl Tryd.func67 (by kernel_rfl) rfl #[.slice A452_4 ((rd_T35 l0 x10_1).f4).length c452_4] rfl y14_ ?_; (with_reducible refine (slices_Clone_Attr.calls _ _ ((rd_T35 l0 x10_1).f4) t454 _ ?side1 ?side2 A6.out).mono ?_); (case side1 => exact Kd.C_below HR452_4.out (y19_ GE453.out)); (case side2 => exact HC452_4.out); rintro e w10 ⟨v455, rfl, ho0, hb⟩; refine ⟨_, rfl, ?_⟩; have n0_ := Aside0.mk (Kd.S_elder' (by (with_reducible repeat (first | apply Kd.S_alloc | apply Kd.S_drewN | apply Kd.S_drew)); exact (Kd.S_mono (Kd.S_far (p := ⟨gb453, 0, none⟩) (Kd.S_far (p := ⟨gb453, 4, none⟩) (Kd.S_far (p := ⟨gb453, 3, none⟩) (Kd.S_far (p := ⟨gb453, 2, none⟩) (Kd.S_far (p := ⟨gb453, 1, none⟩) (Kd.S_far (p := ⟨gb453, 0, none⟩) (Kd.S_mono HO_5.out (fun k_ hk => (⟨hk, hk.2⟩ : _ ∧ k_ ≠ gb453))) (fun _ hk => hk.2) (.int .i64 ((rd_T35 l0 x10_1).f0))) (fun _ hk => hk.2) (.int .i64 ((rd_T35 l0 x10_1).f1))) (fun _ hk => hk.2) (.string ((rd_T35 l0 x10_1).f2))) (fun _ hk => hk.2) (.string ((rd_T35 l0 x10_1).f3))) (fun _ hk => hk.2) (.slice A452_4 ((rd_T35 l0 x10_1).f4).length c452_4)) (fun _ hk => hk.2) (.int .i64 (wrap64 (((rd_T35 l0 x10_1).f0) + a1)))) (fun _ h_ => h_.1))) (Kd.R_base ho0) hb); have n1_ := Aside0.mk (Kd.R_lower ho0 (below_size (y19_ GE453.out))); have n2_ := Aside0.mk (blk_below (g := gb453) (o := .cells #[.int .i64 (wrap64 (((rd_T35 l0 x10_1).f0) + a1)), .int .i64 ((rd_T35 l0 x10_1).f1), .string ((rd_T35 l0 x10_1).f2), .string ((rd_T35 l0 x10_1).f3), .slice A452_4 ((rd_T35 l0 x10_1).f4).length c452_4] 35 (0, 0)) (by (with_reducible repeat (first | refine blk_drewN ?_ _ | refine blk_drew ?_ | refine blk_alloc ?_ _)); refine blk_put (cs := #[.int .i64 ((rd_T35 l0 x10_1).f0), .int .i64 ((rd_T35 l0 x10_1).f1), .string ((rd_T35 l0 x10_1).f2), .string ((rd_T35 l0 x10_1).f3), .slice A452_4 ((rd_T35 l0 x10_1).f4).length c452_4]) ?_ 0 _ rfl; (with_reducible repeat (first | refine blk_drewN ?_ _ | refine blk_drew ?_ | refine blk_alloc ?_ _)); refine blk_put (cs := #[.int .i64 ((rd_T35 l0 x10_1).f0), .int .i64 ((rd_T35 l0 x10_1).f1), .string ((rd_T35 l0 x10_1).f2), .string ((rd_T35 l0 x10_1).f3), .slice none 0 0]) ?_ 4 _ rfl; (with_reducible repeat (first | refine blk_drewN ?_ _ | refine blk_drew ?_ | refine blk_alloc ?_ _)); refine blk_put (cs := #[.int .i64 ((rd_T35 l0 x10_1).f0), .int .i64 ((rd_T35 l0 x10_1).f1), .string ((rd_T35 l0 x10_1).f2), .string (⟨#[]⟩ : ByteArray), .slice none 0 0]) ?_ 3 _ rfl; (with_reducible repeat (first | refine blk_drewN ?_ _ | refine blk_drew ?_ | refine blk_alloc ?_ _)); refine blk_put (cs := #[.int .i64 ((rd_T35 l0 x10_1).f0), .int .i64 ((rd_T35 l0 x10_1).f1), .string (⟨#[]⟩ : ByteArray), .string (⟨#[]⟩ : ByteArray), .slice none 0 0]) ?_ 2 _ rfl; (with_reducible repeat (first | refine blk_drewN ?_ _ | refine blk_drew ?_ | refine blk_alloc ?_ _)); refine blk_put (cs := #[.int .i64 ((rd_T35 l0 x10_1).f0), .int .i64 0, .string (⟨#[]⟩ : ByteArray), .string (⟨#[]⟩ : ByteArray), .slice none 0 0]) ?_ 1 _ rfl; (with_reducible repeat (first | refine blk_drewN ?_ _ | refine blk_drew ?_ | refine blk_alloc ?_ _)); refine blk_put (cs := #[.int .i64 0, .int .i64 0, .string (⟨#[]⟩ : ByteArray), .string (⟨#[]⟩ : ByteArray), .slice none 0 0]) ?_ 0 _ rfl; (with_reducible repeat (first | refine blk_drewN ?_ _ | refine blk_drew ?_ | refine blk_alloc ?_ _)); exact BK453.out) hb); have n3_ := Aside0.mk (below_step (y19_ GE453.out) hb); clear HO_5; clear BK453; clear HB; have HO_5 := n0_; have HO456 := n1_; have BK453 := n2_; have HB := n3_; clear n0_ n1_ n2_ n3_; (try clear hb); (try clear hb2); (try clear hk); (try clear hi); (try clear ho0); obtain ⟨Ao11, co11, eo11⟩ := Kd.R_slice HO456.out; subst eo11; have hcz12_0 : w10.cell? ⟨gb453, 0, none⟩ = some (.int .i64 (wrap64 (((rd_T35 l0 x10_1).f0) + a1))) := (blk_cell BK453.out 0).trans rfl; have hcz12_1 : w10.cell? ⟨gb453, 1, none⟩ = some (.int .i64 ((rd_T35 l0 x10_1).f1)) := (blk_cell BK453.out 1).trans rfl; have hcz12_2 : w10.cell? ⟨gb453, 2, none⟩ = some (.string ((rd_T35 l0 x10_1).f2)) := (blk_cell BK453.out 2).trans rfl; have hcz12_3 : w10.cell? ⟨gb453, 3, none⟩ = some (.string ((rd_T35 l0 x10_1).f3)) := (blk_cell BK453.out 3).trans rfl; have hcz12_4 : w10.cell? ⟨gb453, 4, none⟩ = some (.slice A452_4 ((rd_T35 l0 x10_1).f4).length c452_4) := (blk_cell BK453.out 4).trans rfl; have hfz12_0 := blk_frozen BK453.out 0; have hfz12_1 := blk_frozen BK453.out 1; have hfz12_2 := blk_frozen BK453.out 2; have hfz12_3 := blk_frozen BK453.out 3; have hfz12_4 := blk_frozen BK453.out 4) | ((with_reducible refine gate_store (t := 33) (p := 22) rfl ?_); refine store_event (t := 33) (p := 22) (v := ?vo_w13) (w1 := (w10.setCell ⟨gb453, 4, none⟩ (.slice Ao11 t454.length co11))) ?hg ?ho ?hn ?hr ?_; (case ho => rfl); (case hg => rfl); (case hn => rfl); (case hr => first | (go_simp; done) | (go_simp; rfl)); intro w13 hw; have n0_ : Aside0 (Kd.S k35 35 w13 w.heap.size (fun k_ => some k_ ≠ (.slice Ao11 t454.length co11 : Value).ownBlock ∧ k_ ≠ gb453) u5 x5_1) := ⟨(by rw [hw]; exact (by (with_reducible repeat (first | apply Kd.S_alloc | apply Kd.S_drewN | apply Kd.S_drew)); exact Kd.S_mono (Kd.S_far (p := ⟨gb453, 4, none⟩) (Kd.S_mono HO_5.out (fun k_ hk => (⟨hk, hk.1.2⟩ : _ ∧ k_ ≠ gb453))) (fun _ hk => hk.2) (.slice Ao11 t454.length co11)) (fun _ hk => ⟨hk.1.2, hk.1.1.2⟩)))⟩; have n1_ : Aside0 (Kd.R k41 41 w13 w.heap.size (fun _ => True) (.slice Ao11 t454.length co11) t454) := ⟨(by rw [hw]; exact (by (with_reducible repeat (first | apply Kd.R_alloc | apply Kd.R_drewN | apply Kd.R_drew)); exact Kd.R_mono (Kd.R_far (p := ⟨gb453, 4, none⟩) (Kd.R_types HO456.out BK453.out (by decide)) (fun _ hk => hk.2) (.slice Ao11 t454.length co11)) (fun _ hk => trivial)))⟩; have n2_ : Aside0 (w13.heap[gb453]? = some (.cells #[.int .i64 (wrap64 (((rd_T35 l0 x10_1).f0) + a1)), .int .i64 ((rd_T35 l0 x10_1).f1), .string ((rd_T35 l0 x10_1).f2), .string ((rd_T35 l0 x10_1).f3), .slice Ao11 t454.length co11] 35 (0, 0))) := ⟨(by rw [hw]; exact (by (with_reducible repeat (first | refine blk_drewN ?_ _ | refine blk_drew ?_ | refine blk_alloc ?_ _)); refine blk_put (cs := #[.int .i64 (wrap64 (((rd_T35 l0 x10_1).f0) + a1)), .int .i64 ((rd_T35 l0 x10_1).f1), .string ((rd_T35 l0 x10_1).f2), .string ((rd_T35 l0 x10_1).f3), .slice A452_4 ((rd_T35 l0 x10_1).f4).length c452_4]) ?_ 4 _ rfl; (with_reducible repeat (first | refine blk_drewN ?_ _ | refine blk_drew ?_ | refine blk_alloc ?_ _)); exact BK453.out))⟩; have n3_ : Aside0 (Below w.heap.size w w13) := ⟨(by rw [hw]; exact (y19_ GE453.out))⟩; clear hw; clear HO_5; clear HO456; clear BK453; clear HB; have HO_5 := n0_; have HO456 := n1_; have BK453 := n2_; have HB := n3_; clear n0_ n1_ n2_ n3_; have hcz14_0 : w13.cell? ⟨gb453, 0, none⟩ = some (.int .i64 (wrap64 (((rd_T35 l0 x10_1).f0) + a1))) := (blk_cell BK453.out 0).trans rfl; have hcz14_1 : w13.cell? ⟨gb453, 1, none⟩ = some (.int .i64 ((rd_T35 l0 x10_1).f1)) := (blk_cell BK453.out 1).trans rfl; have hcz14_2 : w13.cell? ⟨gb453, 2, none⟩ = some (.string ((rd_T35 l0 x10_1).f2)) := (blk_cell BK453.out 2).trans rfl; have hcz14_3 : w13.cell? ⟨gb453, 3, none⟩ = some (.string ((rd_T35 l0 x10_1).f3)) := (blk_cell BK453.out 3).trans rfl; have hcz14_4 : w13.cell? ⟨gb453, 4, none⟩ = some (.slice Ao11 t454.length co11) := (blk_cell BK453.out 4).trans rfl; have hfz14_0 := blk_frozen BK453.out 0; have hfz14_1 := blk_frozen BK453.out 1; have hfz14_2 := blk_frozen BK453.out 2; have hfz14_3 := blk_frozen BK453.out 3; have hfz14_4 := blk_frozen BK453.out 4) | ((with_reducible refine gate_builtin (b := .append) (xs := #[.tmp 23, .tmp 25]) rfl ?_); at_builtin; refine Kd.S_append k35 (w0 := w) w.heap.size rfl (.tmp 23) (.tmp 25) 22 35 (.agg #[(.int .i64 0), (.int .i64 0), (.string ⟨#[]⟩), (.string ⟨#[]⟩), (.slice none 0 0)]) 72 rfl Tryd.underlying22 info35 rfl (by decide) (by omega) u5 x5_1 (⟨wrap64 (((rd_T35 l0 x10_1).f0) + a1), (rd_T35 l0 x10_1).f1, (rd_T35 l0 x10_1).f2, (rd_T35 l0 x10_1).f3, t454⟩ : S35) [.int .i64 (wrap64 (((rd_T35 l0 x10_1).f0) + a1)), .int .i64 ((rd_T35 l0 x10_1).f1), .string ((rd_T35 l0 x10_1).f2), .string ((rd_T35 l0 x10_1).f3), .slice Ao11 t454.length co11] (fun k_ => k_ ≠ gb453) (fun k_ => some k_ = (.slice Ao11 t454.length co11 : Value).ownBlock) rfl rfl ?aP (fun k_ hk_ => ((Kd.R_mono (ok' := fun k_ => ((fun k_ => k_ ≠ gb453)) k_ ∧ some k_ ≠ (u5 : Value).ownBlock) (Kd.R_types (Kd.R_apart' (HO456.out) (Kd.S_typed HO_5.out) (by decide)) BK453.out (by decide)) (fun k_ hk => ⟨hk.2, hk.1.2⟩))).1 k_ hk_.symm) ?aF ?aO ?aB ?aS ?aL ?_; (case aP => exact k35_mkM _ _ _ (⟨wrap64 (((rd_T35 l0 x10_1).f0) + a1), (rd_T35 l0 x10_1).f1, (rd_T35 l0 x10_1).f2, (rd_T35 l0 x10_1).f3, t454⟩ : S35) (Kd.R_mono (Kd.R_tight rfl (Kd.R_mono (ok' := fun k_ => ((fun k_ => k_ ≠ gb453)) k_ ∧ some k_ ≠ (u5 : Value).ownBlock) (Kd.R_types (Kd.R_apart' (HO456.out) (Kd.S_typed HO_5.out) (by decide)) BK453.out (by decide)) (fun k_ hk => ⟨hk.2, hk.1.2⟩))) (fun _ h_ => h_))); (case aB => exact (y19_ GE453.out)); (case aF => exact (fun k_ hk => Kd.freshB (g := gb453) (o := .cells #[.int .i64 (wrap64 (((rd_T35 l0 x10_1).f0) + a1)), .int .i64 ((rd_T35 l0 x10_1).f1), .string ((rd_T35 l0 x10_1).f2), .string ((rd_T35 l0 x10_1).f3), .slice Ao11 t454.length co11] 35 (0, 0)) (y11_ BK453.out) k_ hk)); (case aO => exact (y18_ HO_5.out)); (case aS => exact (below_size (y19_ GE453.out))); (case aL => have := LMc7.out; first | omega | exact Nat.le_of_lt this); intro v458 w15 ho hb hg hat; rw [← Ny457.out] at ho; have n0_ := Aside0.mk (blk_grown (g := gb453) (o := .cells #[.int .i64 (wrap64 (((rd_T35 l0 x10_1).f0) + a1)), .int .i64 ((rd_T35 l0 x10_1).f1), .string ((rd_T35 l0 x10_1).f2), .string ((rd_T35 l0 x10_1).f3), .slice Ao11 t454.length co11] 35 (0, 0)) (y11_ BK453.out) hg (Kd.S_away HO_5.out (fun _ hk => hk.2))); have n1_ := Aside0.mk (hb); have n2_ := Aside0.mk (ho); clear BK453; clear HB; clear HO_5; clear HO456; have BK453 := n0_; have HB := n1_; have HO459 := n2_; clear n0_ n1_ n2_; clear ho hb hg hat))
    go_roundg k1
    case measure => have := HK1.out; omega
    case rel => exact ⟨(y457), (wrap64 (x10_1 + 1)), y4_, H', ⟨by have := HK1.out; omega⟩, ⟨by (with_reducible repeat (first | apply Kd.S_alloc | apply Kd.S_drewN | apply Kd.S_drew)); exact Kd.S_mono HO459.out (fun _ hk => trivial)⟩, ⟨(y19_ GE453.out)⟩⟩
   ·rw [if_neg c3] at H
    have c3b0 : decide (x10_1 < (l0.length : Int)) = false := decide_eq_false c3
    clear c3
    obtain rfl := Option.some.inj H
    go_wp2
    go_ret
    exact ⟨_, y12_, by (with_reducible repeat (first | apply Kd.S_alloc | apply Kd.S_drewN | apply Kd.S_drew)); exact HO_5.out, y13_⟩
end Go.Proofs.YtpnhjipaeggcpaaDoor.X
end
section
namespace Go.Proofs.YtpnhjipaeggcpaaDoor.X
open Go.RowKit Go.Proofs.YtpnhjipaeggcpaaDoorW.PrintWords Go.Proofs.YtpnhjipaeggcpaaDoorW.PrintLast Go.Proofs.YtpnhjipaeggcpaaDoorW.PrintMore
def lastText (o : List S35) (d : Int) : Bool := match o.getLast? with
  | none => false
  | some y => y.f1 == 1 && (y.f0 == d)
def lastAdd (o : List S35) (s : ByteArray) : List S35 := match o.getLast? with
  | none => o
  | some y => o.set (o.length - 1) ⟨y.f0, y.f1, y.f2, y.f3 ++ s, y.f4⟩
def lastSize (o : List S35) : Nat := match o.getLast? with
  | none => 0
  | some y => y.f3.size
def normGo : List S35 → List S35 → Option (List S35)
  | o, [] => some o
  | o, x :: r => if x.f1 = 1 ∧ x.f3.toList.isEmpty = true then normGo o r
      else if x.f1 = 1 ∧ lastText o x.f0 = true then (if lastSize o + x.f3.size ≤ 9223372036854775807 then normGo (lastAdd o x.f3) r else none)
      else if o.length < 1954687338268 then normGo (o ++ [x]) r else none
def rows_Normal.f (l0 : List S35) : Option (List S35) := (rows_moved.f (l0.length + 1) l0 0).bind (normGo [])
def NormI (w Wm : World) (f : Nat → Nat) (j : Nat) (v : Value) (o : List S35) (W : World) : Prop :=
  Kd.S k35 35 W w.heap.size (fun k => k < Wm.heap.size → (∃ cells, Wm.heap[k]? = some (.cells cells 41 (0, 0))) ∧ f k < j) v o ∧
  (∀ k, v.ownBlock = some k → Wm.heap.size ≤ k) ∧ Below Wm.heap.size Wm W
theorem normI_next {w Wm W W' : World} {f : Nat → Nat} {j : Nat} {v : Value} {o : List S35} (h : NormI w Wm f j v o W) (hb : Below W.heap.size W W') : NormI w Wm f (j + 1) v o W' :=
  ⟨Kd.S_mono (Kd.S_below h.1 hb) (fun k hk hlt => ⟨(hk hlt).1, by have := (hk hlt).2; omega⟩), h.2.1, h.2.2.trans (hb.mono h.2.2.size)⟩
theorem norm_elem {Wm : World} {base : Nat} {f : Nat → Nat} {A : Option Addr} {n cap : Nat} {m : List S35} (hR : (Kd.tag f k35).R 35 Wm base (fun _ => True) (.slice A n cap) m.zipIdx) {j : Nat} {x : S35} (hx : m[j]? = some x) :
    ∃ ad A4 c4, A = some ad ∧ k35.M Wm base (fun k => k < Wm.heap.size ∧ (∃ cells, Wm.heap[k]? = some (.cells cells 41 (0, 0))) ∧ f k = j) x [.int .i64 x.f0, .int .i64 x.f1, .string x.f2, .string x.f3, .slice A4 x.f4.length c4] ∧
      Wm.cell? (ad.add (j * 5)) = some (.int .i64 x.f0) ∧ Wm.cell? ⟨(ad.add (j * 5)).block, (ad.add (j * 5)).off + 1, none⟩ = some (.int .i64 x.f1) ∧ Wm.cell? ⟨(ad.add (j * 5)).block, (ad.add (j * 5)).off + 2, none⟩ = some (.string x.f2) ∧
      Wm.cell? ⟨(ad.add (j * 5)).block, (ad.add (j * 5)).off + 3, none⟩ = some (.string x.f3) ∧ Wm.cell? ⟨(ad.add (j * 5)).block, (ad.add (j * 5)).off + 4, none⟩ = some (.slice A4 x.f4.length c4) := by
  have hj : j < m.length := (List.getElem?_eq_some_iff.1 hx).1
  obtain ⟨hn, hnc, hC⟩ := Kd.R_reads' hR
  rw [List.length_zipIdx] at hn
  subst hn
  obtain ⟨ad, _, _, rfl, _⟩ := row_at (Kd.S_reads' ⟨f, hR⟩).2.2 hx
  obtain ⟨c, hcl, hM, hcc⟩ := Kd.R_getA hR (x, 0) (j : Int) (by omega) (by omega)
  have hz : m.zipIdx.getD (j : Int).toNat (x, 0) = (x, j) := by
    rw [Int.toNat_natCast, List.getD_eq_getElem?_getD, Kd.zip_at hx]; rfl
  rw [hz] at hM
  have hM2 := k35.M_bound (show k35.M Wm base (fun k => (True ∧ some k ≠ (Value.slice (some ad) m.length cap).ownBlock) ∧ f k = j) x c from hM)
  obtain ⟨v4, rfl, h4⟩ := k35_openM hM2
  obtain ⟨A4, c4, rfl⟩ := Kd.R_slice h4
  rw [Int.toNat_natCast] at hcc
  have hadd : ∀ q, (⟨(ad.add (j * 5)).block, (ad.add (j * 5)).off + q, none⟩ : Addr) = ad.add (j * 5 + q) := fun q => by
    obtain ⟨g, rfl⟩ := Kd.R_head hR
    simp only [Addr.add]
    split <;> split <;> simp_all
  refine ⟨ad, A4, c4, rfl, k35.M_mono (fun k hk => ?_) hM2, hcc 0 _ rfl, ?_, ?_, ?_, ?_⟩
  · obtain ⟨hk1, _, hk3, q, hq, hcq⟩ := hk
    have : q = 41 := by
      have e : k35.E = [41] := rfl
      rw [e] at hq
      simpa using hq
    subst this
    exact ⟨hk3, hcq, hk1.2⟩
  · rw [hadd]; exact hcc 1 _ rfl
  · rw [hadd]; exact hcc 2 _ rfl
  · rw [hadd]; exact hcc 3 _ rfl
  · rw [hadd]; exact hcc 4 _ rfl
theorem norm_append {ops : Array Oper} {rest : List Oper} {o : Oper} {a : Act} {Q : Exit → Act → World → Prop} {w Wm W : World} {f : Nat → Nat} {j : Nat} {v : Value} {os : List S35} {x : S35} {A4 : Option Addr} {c4 : Nat} (s y : Operand) (hgd : o.guard = none)
    (ho : o.op = .call { callee := .builtin .append, args := #[s, y], argTypes := #[22, 22] }) (hs : a.eval s = v) (hy : a.eval y = .slice (some ⟨W.heap.size, 0, none⟩) 1 1) (HN : NormI w Wm f j v os W)
    (HM : k35.M W w.heap.size (fun k => k < Wm.heap.size ∧ (∃ cells, Wm.heap[k]? = some (.cells cells 41 (0, 0))) ∧ f k = j) x [.int .i64 x.f0, .int .i64 x.f1, .string x.f2, .string x.f3, .slice A4 x.f4.length c4])
    (hsz : w.heap.size ≤ Wm.heap.size) (hl : os.length < 1954687338268)
    (h : ∀ A1 c1 w1, NormI w Wm f (j + 1) (.slice A1 (os.length + 1) c1) (os ++ [x]) w1 → wpList Tryd.prog ops Q rest (a.put o.dst (.slice A1 (os.length + 1) c1)) w1) :
    wpList Tryd.prog ops Q (o :: rest) a (W.alloc (.cells #[.int .i64 x.f0, .int .i64 x.f1, .string x.f2, .string x.f3, .slice A4 x.f4.length c4] 35)) := by
  obtain ⟨hS, hO, hB⟩ := HN
  refine Kd.S_append k35 (w0 := Wm) w.heap.size hgd s y 22 35 (.agg #[(.int .i64 0), (.int .i64 0), (.string ⟨#[]⟩), (.string ⟨#[]⟩), (.slice none 0 0)]) 72 ho Tryd.underlying22 info35 rfl (by decide) (by omega) v os x
    [.int .i64 x.f0, .int .i64 x.f1, .string x.f2, .string x.f3, .slice A4 x.f4.length c4] (fun k => k < Wm.heap.size → (∃ cells, Wm.heap[k]? = some (.cells cells 41 (0, 0))) ∧ f k < j + 1) (fun k => k < Wm.heap.size ∧ (∃ cells, Wm.heap[k]? = some (.cells cells 41 (0, 0))) ∧ f k = j) hs hy HM
    (fun k hk => ⟨fun _ => ⟨hk.2.1, by have := hk.2.2; omega⟩, fun e => by have := hO k e.symm; omega⟩) (fun k hk hk2 => absurd hk2 (by have := hB.size; omega))
    (Kd.S_mono hS (fun k hk => ⟨fun h => ⟨(hk h).1, by have := (hk h).2; omega⟩, fun h => by have := (hk h.1).2; omega⟩)) (hB.mono hsz) (by have := hB.size; omega) (by omega) ?_
  intro v1 w1 hS1 hb1 hg1 hat1
  obtain ⟨A1, c1, rfl⟩ := Kd.S_slice hS1
  rw [show (os ++ [x]).length = os.length + 1 by simp] at *
  refine h A1 c1 w1 ⟨hS1, fun k hk => ?_, hB.grown hg1 hB.size (fun k hk => hO k hk)⟩
  rcases hat1 with e1 | ⟨b, e1, hb⟩
  · rw [e1] at hk; exact hO k hk
  · rw [e1] at hk; cases hk; exact Nat.le_trans hB.size hb
theorem last_set (o : List S35) (y y' : S35) : (o ++ [y]).set o.length y' = o ++ [y'] := by simp
theorem norm_store {ops : Array Oper} {rest : List Oper} {o : Oper} {a : Act} {Q : Exit → Act → World → Prop} {w Wm W : World} {f : Nat → Nat} {j co : Nat} {os : List S35} {y : S35} {u : ByteArray} {ad : Addr} (p s : Operand) (hN : o.dst = none) (hgd : o.guard = none)
    (ho : o.op = .store 9 p s) (hp : a.eval p = .pointer (some ⟨(ad.add (os.length * 5)).block, (ad.add (os.length * 5)).off + 3, none⟩)) (hs : a.eval s = .string u) (HN : NormI w Wm f j (.slice (some ad) (os.length + 1) co) (os ++ [y]) W) (hsz : w.heap.size ≤ Wm.heap.size)
    (h : ∀ w1, NormI w Wm f j (.slice (some ad) (os.length + 1) co) (os ++ [⟨y.f0, y.f1, y.f2, u, y.f4⟩]) w1 → wpList Tryd.prog ops Q rest a w1) : wpList Tryd.prog ops Q (o :: rest) a W := by
  obtain ⟨hS, hO, hB⟩ := HN
  obtain ⟨g, rfl⟩ := Kd.R_head (Kd.S_R hS)
  obtain ⟨oki, c, hcl, hM, hcc, hfr, hoki, hH⟩ := Kd.S_elem hS y (os.length : Int) (by omega) (by omega)
  have hz : (os ++ [y]).getD (os.length : Int).toNat y = y := by simp
  rw [hz] at hM
  obtain ⟨v4, rfl, h4⟩ := k35_openM hM
  have hadd : (⟨((⟨g, 0, none⟩ : Addr).add (os.length * 5)).block, ((⟨g, 0, none⟩ : Addr).add (os.length * 5)).off + 3, none⟩ : Addr) = ⟨g, os.length * 5 + 3, none⟩ := by
    simp only [Addr.add]
    split <;> simp_all
  rw [hadd] at hp
  refine Kd.H_store k35 (w0 := Wm) w.heap.size hN hgd 9 p s ho 35 (g := g) (n := os.length + 1) (cap := co) (o' := os.length * 5 + 3) (os.length : Int) 3 (os ++ [y]) ⟨y.f0, y.f1, y.f2, u, y.f4⟩ (.string u) [.string u] [.int .i64 y.f0, .int .i64 y.f1, .string y.f2, .string y.f3, v4] _ oki oki hp rfl hs rfl (by kernel_rfl) (by intro q hq; simp at hq; subst hq; rfl) hH (by omega) (by omega) (show 3 + 1 ≤ 5 by omega) (k35_mkM _ _ _ (⟨y.f0, y.f1, y.f2, u, y.f4⟩ : S35) h4) (fun _ hk => hk) (hB.mono hsz) ?_
  intro w1 hS1 hb1 hg1
  rw [Int.toNat_natCast, last_set] at hS1
  exact h w1 ⟨hS1, hO, hB.grown hg1 hB.size (fun k hk => hO k (by rw [← hk]; rfl))⟩
theorem normI_same {w Wm W W' : World} {f : Nat → Nat} {j : Nat} {v : Value} {o : List S35} (h : NormI w Wm f j v o W) (hb : Below W.heap.size W W') : NormI w Wm f j v o W' :=
  ⟨Kd.S_below h.1 hb, h.2.1, h.2.2.trans (hb.mono h.2.2.size)⟩
set_option maxHeartbeats 8000000 in
set_option maxRecDepth 100000 in
theorem rows_Normal.calls (A0 : Option Addr) (c0 : Nat) (l0 : List S35) (r : List S35) (w : World) (hr0 : Kd.C k35 w A0 l0.length l0) (hc0 : l0.length ≤ c0) (h : rows_Normal.f l0 = some r) :
    Calls Tryd.prog 29 #[.slice A0 l0.length c0] w fun e w' => ∃ v0_ : Value, e = .returned v0_ ∧ Kd.S k35 35 w' w.heap.size (fun _ => True) v0_ r ∧ Below w.heap.size w w' := by
  have hu := Tryd.underlying35
  obtain ⟨m, hm, hgo⟩ := Option.bind_eq_some_iff.1 h
  clear h
  have hc := rows_moved.calls (l0.length + 1) A0 c0 l0 0 m w hr0 hc0 hm
  clear hr0 hm
  go_enter Tryd.func29, Tryd.ntmps29
  go_wp2_with (go_at_call 48; refine hc.mono ?_; clear hc; rintro e Wm ⟨vm, rfl, ⟨f, hR⟩, hbm⟩; obtain ⟨Am, cm, rfl⟩ := Kd.S_slice ⟨f, hR⟩)
  have HR := Aside0.mk hR
  have HBM := Aside0.mk hbm
  have hmax : m.length ≤ 9223372036854775807 := (Kd.S_reads' ⟨f, hR⟩).2.2.2.1
  clear hR hbm
  go_loopw [3, 5, 6, 10] (fun v _ _ i wr => ∃ (j : Nat) (o : List S35), i = .int .i64 j ∧ j ≤ m.length ∧ Aside0 (NormI w Wm f j v o wr) ∧ Aside0 (normGo o (m.drop j) = some r)) (fun _ _ _ i _ => m.length - (intOf i).toNat)
  case atStart => exact ⟨0, [], rfl, Nat.zero_le _, ⟨Kd.S_nil _ _ _ _ _, (fun k hk => by cases hk), Below.refl _ _⟩, ⟨hgo⟩⟩
  case round =>
    obtain ⟨j, o, rfl, hj, HI, HG⟩ := hrel
    obtain ⟨hS, hown, hB⟩ := HI.out
    obtain ⟨Ao, co, rfl⟩ := Kd.S_slice hS
    have HS := Aside0.mk hS
    have HOW := Aside0.mk hown
    have HB := Aside0.mk hB
    clear hS hown hB HI
    by_cases hlt : j < m.length
    · have hlz : (j : Int) < (m.length : Int) := by omega
      obtain ⟨⟨xd, xk, xn, xt, xa⟩, hx, hxe⟩ := getD_at hlt
      have hg := HG.out
      rw [List.drop_eq_getElem_cons hlt, hxe, normGo] at hg
      obtain ⟨ad, A4, c4, e, hM, x0, x1, x2, x3, x4⟩ := norm_elem HR.out hx
      cases e
      have HM := Aside0.mk (Kd.M_below hM HB.out)
      replace x0 := (HB.out.cell (World.block_lt_of_cell? _ _ x0)).trans x0
      replace x1 := (HB.out.cell (World.block_lt_of_cell? _ _ x1)).trans x1
      replace x2 := (HB.out.cell (World.block_lt_of_cell? _ _ x2)).trans x2
      replace x3 := (HB.out.cell (World.block_lt_of_cell? _ _ x3)).trans x3
      replace x4 := (HB.out.cell (World.block_lt_of_cell? _ _ x4)).trans x4
      clear hM hx hxe HG
      dsimp only at *
      by_cases hk : xk = 1
      · subst hk
        cases he : xt.toList.isEmpty with
        | true =>
          rw [if_pos ⟨rfl, he⟩] at hg
          have HG2 := Aside0.mk hg
          clear hg
          go_wp2
          go_roundw
          case rel => exact ⟨j + 1, o, by go_num, by omega, ⟨normI_next ⟨HS.out, HOW.out, HB.out⟩ ((Below.refl _ _).alloc (Nat.le_refl _) _)⟩, HG2⟩
          case measure => simp [intOf]; omega
        | false =>
          rw [if_neg (by rw [he]; rintro ⟨_, h⟩; cases h)] at hg
          rcases List.eq_nil_or_concat o with rfl | ⟨o', ⟨yd, yk, yn, yt, ya⟩, rfl⟩
          · rw [if_neg (by rintro ⟨_, h⟩; cases h), if_pos (by decide)] at hg
            have HG2 := Aside0.mk hg
            have hol : ([] : List S35).length < 1954687338268 := by decide
            clear hg
            have hbx := fun nq => pw_below_drewN ((Below.refl wr.heap.size wr).alloc (Nat.le_refl _) (.cells #[.int .i64 xd, .int .i64 1, .string xn, .string xt, .slice A4 xa.length c4] 35)) nq
            have HNW := fun nq => normI_same ⟨HS.out, HOW.out, HB.out⟩ (hbx nq)
            have HMW := fun nq => Kd.M_below (d := k35) HM.out (hbx nq)
            have hszm := HBM.out.size
            have HNA := Aside0.mk HNW
            have HMA := Aside0.mk HMW
            clear hbx HNW HMW
            go_wp2_with fail
            go_quiet (fail)
            go_wp2_with ((with_reducible refine gate_builtin (b := .append) (xs := #[.tmp 16, .tmp 18]) rfl ?_); at_builtin; refine norm_append (x := ⟨xd, 1, xn, xt, xa⟩) (.tmp 16) (.tmp 18) rfl rfl rfl (congrArg (fun q => Value.slice (some ⟨q, 0, none⟩) 1 1) (World.size_alloc wr (.cells #[.int .i64 xd, .int .i64 1, .string xn, .string xt, .slice A4 xa.length c4] 35)).symm) (HNA.out nq) (HMA.out nq) hszm hol ?_; intro A1 c1 w1 hN1; have HN := Aside0.mk hN1; clear hN1)
            go_roundw
            case rel => exact ⟨j + 1, _, by go_num, by omega, HN, HG2⟩
            case measure => simp [intOf]; omega
          · rw [List.concat_eq_append] at *
            obtain ⟨ad2, A5, c5, e5, y0, y1, y2, y3, y4, _, _⟩ := row_at (Kd.S_reads' HS.out).2.2 (show (o' ++ [⟨yd, yk, yn, yt, ya⟩])[o'.length]? = some ⟨yd, yk, yn, yt, ya⟩ by simp)
            cases e5
            have y0_ := cell_alloc y0
            have y1_ := cell_alloc y1
            have y2_ := cell_alloc y2
            have y3_ := cell_alloc y3
            have y4_ := cell_alloc y4
            clear y0 y1 y2 y3 y4
            dsimp only at *
            have hlen : (o' ++ [(⟨yd, yk, yn, yt, ya⟩ : S35)]).length = o'.length + 1 := by simp
            rw [hlen] at HS HOW ⊢
            have hlt2 : lastText (o' ++ [⟨yd, yk, yn, yt, ya⟩]) xd = (yk == 1 && (yd == xd)) := by simp [lastText]
            rw [hlt2] at hg
            by_cases hyk : yk = 1
            · subst hyk
              by_cases hyd : yd = xd
              · subst hyd
                rw [if_pos ⟨rfl, by simp⟩, show lastSize (o' ++ [(⟨yd, 1, yn, yt, ya⟩ : S35)]) = yt.size by simp [lastSize], show lastAdd (o' ++ [(⟨yd, 1, yn, yt, ya⟩ : S35)]) xt = o' ++ [⟨yd, 1, yn, yt ++ xt, ya⟩] by simp [lastAdd]] at hg
                by_cases hcat : yt.size + xt.size ≤ 9223372036854775807
                · rw [if_pos hcat] at hg
                  have HG2 := Aside0.mk hg
                  have hdd : (yd == yd) = true := by simp
                  have hob : o'.length < 9223372036854775807 := by have := (Kd.S_reads' HS.out).2.2.2.1; simp at this; omega
                  have hcat2 : (9223372036854775807 < yt.size + xt.size) = False := eq_false (Nat.not_lt.2 hcat)
                  have HLEN := Aside0.mk hlen
                  have hbx := fun nq => pw_below_drewN ((Below.refl wr.heap.size wr).alloc (Nat.le_refl _) (.cells #[.int .i64 yd, .int .i64 1, .string xn, .string xt, .slice A4 xa.length c4] 35)) nq
                  have HNW := fun nq => normI_same (v := .slice (some ad2) (o'.length + 1) co) ⟨HS.out, HOW.out, HB.out⟩ (hbx nq)
                  have HNA := Aside0.mk HNW
                  have hszm := HBM.out.size
                  clear hg hlen hbx HNW
                  go_wp2_with fail
                  go_quiet (fail)
                  go_wp2_with fail
                  have hN2 := HNA.out nq
                  have hx3 : ((wr.alloc (.cells #[.int .i64 yd, .int .i64 1, .string xn, .string xt, .slice A4 xa.length c4] 35)).drewN nq).cell? ⟨wr.heap.size, 3, none⟩ = some (.string xt) := World.cell?_alloc_new _ _ _ _
                  have hy3 : ((wr.alloc (.cells #[.int .i64 yd, .int .i64 1, .string xn, .string xt, .slice A4 xa.length c4] 35)).drewN nq).cell? ⟨(ad2.add (o'.length * 5)).block, (ad2.add (o'.length * 5)).off + 3, none⟩ = some (.string yt) := y3_ _
                  generalize (wr.alloc (.cells #[.int .i64 yd, .int .i64 1, .string xn, .string xt, .slice A4 xa.length c4] 35)).drewN nq = W2 at *
                  have HN2 := Aside0.mk hN2
                  clear hN2 y0_ y1_ y2_ y3_ y4_ x0 x1 x2 x3 x4
                  have hwr : IntKind.i64.wrap (o'.length : Int) = o'.length := wrap_small _ (by omega) (by omega)
                  have hwr2 : IntKind.i64.wrap ((o'.length : Int) + 1 - 1) = o'.length := by rw [Int.add_sub_cancel]; exact hwr
                  have HN3 := Aside0.mk (normI_same HN2.out (show Below W2.heap.size W2 W2.drew from (Below.refl _ W2).drew))
                  have hbd : ((o'.length : Int) < (o'.length : Int) + 1) = True := eq_true (by omega)
                  go_still_tail 11, (by kernel_rfl)
                  change wpList _ _ _ _ _ W2.drew
                  clear hx3 hy3
                  generalize W2.drew = W3 at *
                  go_wp2_with (refine norm_store (w := w) (Wm := Wm) (f := f) (j := j) (os := o') (y := ⟨yd, 1, yn, yt, ya⟩) (ad := ad2) (co := co) (.tmp 67) (.tmp 65) rfl rfl rfl rfl rfl HN3.out hszm ?_; intro w1 hN4; have HN4 := Aside0.mk (normI_next hN4 (Below.refl _ w1)); clear hN4)
                  go_roundw
                  case rel => exact ⟨j + 1, _, by go_num, by omega, HN4, HG2⟩
                  case measure => simp [intOf]; omega
                · rw [if_neg hcat] at hg; cases hg
              · have hyd1 : (yd == xd) = false := beq_eq_false_iff_ne.mpr hyd
                rw [hyd1, if_neg (by simp)] at hg
                by_cases hol : (o' ++ [(⟨yd, 1, yn, yt, ya⟩ : S35)]).length < 1954687338268
                · rw [if_pos hol] at hg
                  rw [hlen] at hol
                  have HG2 := Aside0.mk hg
                  have HLEN := Aside0.mk hlen
                  clear hg hlen
                  have hbx := fun nq => pw_below_drewN ((Below.refl wr.heap.size wr).alloc (Nat.le_refl _) (.cells #[.int .i64 xd, .int .i64 1, .string xn, .string xt, .slice A4 xa.length c4] 35)) nq
                  have HNW := fun nq => normI_same ⟨HS.out, HOW.out, HB.out⟩ (hbx nq)
                  have HMW := fun nq => Kd.M_below (d := k35) HM.out (hbx nq)
                  have hszm := HBM.out.size
                  have HNA := Aside0.mk HNW
                  have HMA := Aside0.mk HMW
                  clear hbx HNW HMW
                  go_wp2_with fail
                  go_quiet (fail)
                  go_wp2_with ((with_reducible refine gate_builtin (b := .append) (xs := #[.tmp 16, .tmp 18]) rfl ?_); at_builtin; refine norm_append (x := ⟨xd, 1, xn, xt, xa⟩) (.tmp 16) (.tmp 18) rfl rfl rfl (congrArg (fun q => Value.slice (some ⟨q, 0, none⟩) 1 1) (World.size_alloc wr (.cells #[.int .i64 xd, .int .i64 1, .string xn, .string xt, .slice A4 xa.length c4] 35)).symm) (HNA.out nq) (HMA.out nq) hszm (by simpa using hol) ?_; intro A1 c1 w1 hN1; have HN := Aside0.mk hN1; clear hN1)
                  go_roundw
                  case rel => exact ⟨j + 1, _, by go_num, by omega, ⟨by have h_ := HN.out; rw [HLEN.out] at h_; exact h_⟩, HG2⟩
                  case measure => simp [intOf]; omega
                · rw [if_neg hol] at hg; cases hg
            · have hyk1 : (yk == 1) = false := beq_eq_false_iff_ne.mpr hyk
              rw [hyk1, if_neg (by simp)] at hg
              by_cases hol : (o' ++ [(⟨yd, yk, yn, yt, ya⟩ : S35)]).length < 1954687338268
              · rw [if_pos hol] at hg
                rw [hlen] at hol
                have HG2 := Aside0.mk hg
                have HLEN := Aside0.mk hlen
                clear hg hlen
                have hbx := fun nq => pw_below_drewN ((Below.refl wr.heap.size wr).alloc (Nat.le_refl _) (.cells #[.int .i64 xd, .int .i64 1, .string xn, .string xt, .slice A4 xa.length c4] 35)) nq
                have HNW := fun nq => normI_same ⟨HS.out, HOW.out, HB.out⟩ (hbx nq)
                have HMW := fun nq => Kd.M_below (d := k35) HM.out (hbx nq)
                have hszm := HBM.out.size
                have HNA := Aside0.mk HNW
                have HMA := Aside0.mk HMW
                clear hbx HNW HMW
                go_wp2_with fail
                go_quiet (fail)
                go_wp2_with ((with_reducible refine gate_builtin (b := .append) (xs := #[.tmp 16, .tmp 18]) rfl ?_); at_builtin; refine norm_append (x := ⟨xd, 1, xn, xt, xa⟩) (.tmp 16) (.tmp 18) rfl rfl rfl (congrArg (fun q => Value.slice (some ⟨q, 0, none⟩) 1 1) (World.size_alloc wr (.cells #[.int .i64 xd, .int .i64 1, .string xn, .string xt, .slice A4 xa.length c4] 35)).symm) (HNA.out nq) (HMA.out nq) hszm (by simpa using hol) ?_; intro A1 c1 w1 hN1; have HN := Aside0.mk hN1; clear hN1)
                go_roundw
                case rel => exact ⟨j + 1, _, by go_num, by omega, ⟨by have h_ := HN.out; rw [HLEN.out] at h_; exact h_⟩, HG2⟩
                case measure => simp [intOf]; omega
              · rw [if_neg hol] at hg; cases hg
      · rw [if_neg (fun h => hk h.1), if_neg (fun h => hk h.1)] at hg
        have hk1 : (xk == 1) = false := beq_eq_false_iff_ne.mpr hk
        by_cases hol : o.length < 1954687338268
        · rw [if_pos hol] at hg
          have HG2 := Aside0.mk hg
          clear hg
          have hbx := fun nq => pw_below_drewN ((Below.refl wr.heap.size wr).alloc (Nat.le_refl _) (.cells #[.int .i64 xd, .int .i64 xk, .string xn, .string xt, .slice A4 xa.length c4] 35)) nq
          have HNW := fun nq => normI_same ⟨HS.out, HOW.out, HB.out⟩ (hbx nq)
          have HMW := fun nq => Kd.M_below (d := k35) HM.out (hbx nq)
          have hszm := HBM.out.size
          have HNA := Aside0.mk HNW
          have HMA := Aside0.mk HMW
          clear hbx HNW HMW
          go_wp2_with fail
          go_quiet (fail)
          go_wp2_with ((with_reducible refine gate_builtin (b := .append) (xs := #[.tmp 16, .tmp 18]) rfl ?_); at_builtin; refine norm_append (x := ⟨xd, xk, xn, xt, xa⟩) (.tmp 16) (.tmp 18) rfl rfl rfl (congrArg (fun q => Value.slice (some ⟨q, 0, none⟩) 1 1) (World.size_alloc wr (.cells #[.int .i64 xd, .int .i64 xk, .string xn, .string xt, .slice A4 xa.length c4] 35)).symm) (HNA.out nq) (HMA.out nq) hszm hol ?_; intro A1 c1 w1 hN1; have HN := Aside0.mk hN1; clear hN1)
          go_roundw
          case rel => exact ⟨j + 1, _, by go_num, by omega, HN, HG2⟩
          case measure => simp [intOf]; omega
        · rw [if_neg hol] at hg; cases hg
    · obtain rfl : j = m.length := by omega
      have hlz : ¬ (m.length : Int) < (m.length : Int) := by omega
      have hg := HG.out
      rw [List.drop_eq_nil_of_le (Nat.le_refl _), normGo] at hg
      cases hg
      go_wp2
      go_ret
      exact ⟨_, rfl, Kd.S_mono HS.out (fun _ _ => trivial), HBM.out.trans (HB.out.mono HBM.out.size)⟩
end Go.Proofs.YtpnhjipaeggcpaaDoor.X
end
section
namespace Go.Proofs.YtpnhjipaeggcpaaDoor.X
open Go.RowKit Go.Proofs.YtpnhjipaeggcpaaDoorW.PrintWords Go.Proofs.YtpnhjipaeggcpaaDoorW.PrintLast Go.Proofs.YtpnhjipaeggcpaaDoorW.PrintMore
attribute [local go_sem] max2_int min2_int max_two min_two max_three min_three max_four min_four
theorem eqA41 (d : Nat) (w : World) (x0 y0 : ByteArray) (x1 y1 : ByteArray) :
  (Op.equalIn (d + 2) 41 (.agg #[.string x0, .string x1]) (.agg #[.string y0, .string y1])).run Tryd.prog w = .ok (x0.toList == y0.toList && (x1.toList == y1.toList)) w := by
 refine eqA_of Tryd.underlying41 (by kernel_rfl) ?_
 refine eqf_cons (by rfl) (by go_simp; rfl) (by go_simp; rfl) (by go_simp) ?_
 exact eqf_last (by rfl) (by go_simp; rfl) (by go_simp; rfl) (by go_simp)
end Go.Proofs.YtpnhjipaeggcpaaDoor.X
end
section
namespace Go.Proofs.YtpnhjipaeggcpaaDoor.X
open Go.RowKit Go.Proofs.YtpnhjipaeggcpaaDoorW.PrintWords Go.Proofs.YtpnhjipaeggcpaaDoorW.PrintLast Go.Proofs.YtpnhjipaeggcpaaDoorW.PrintMore
def attrEq (a b : S41) : Bool := a.f0.toList == b.f0.toList && (a.f1.toList == b.f1.toList)
def attrsEq : List S41 → List S41 → Bool
  | [], [] => true
  | a :: l, b :: m => attrEq a b && attrsEq l m
  | _, _ => false
def rowEq (x y : S35) : Bool := x.f0 == y.f0 && (x.f1 == y.f1 && (x.f2.toList == y.f2.toList && (x.f3.toList == y.f3.toList && attrsEq x.f4 y.f4)))
def rowsEq : List S35 → List S35 → Bool
  | [], [] => true
  | a :: l, b :: m => rowEq a b && rowsEq l m
  | _, _ => false
def rows_Same.f (l0 l1 : List S35) : Option Bool := some (rowsEq l0 l1)
theorem pre_succ {α : Type} {f : α → α → Bool} {l m : List α} {k : Nat} {x y : α} (h : ∀ j, j < k → ∀ a b, l[j]? = some a → m[j]? = some b → f a b = true) (hx : l[k]? = some x) (hy : m[k]? = some y) (hq : f x y = true) :
    ∀ j, j < k + 1 → ∀ a b, l[j]? = some a → m[j]? = some b → f a b = true := fun j hj a b ha hb => by
  by_cases e : j = k
  · subst e; rw [hx] at ha; rw [hy] at hb; cases ha; cases hb; exact hq
  · exact h j (by omega) a b ha hb
def mnN (a b : Nat) : Nat := min a b
theorem min2_nat (k k' : IntKind) (x y : Nat) : Builtin.min2 (.int k (x : Int)) (.int k' (y : Int)) = pure (.int k ((mnN y x : Nat) : Int)) := by
  simp only [Builtin.min2, mnN]
  congr 1
  split <;> (congr 1; omega)
theorem attrsEq_at : ∀ {l m : List S41} {k : Nat}, (∀ j, j < k → ∀ a b, l[j]? = some a → m[j]? = some b → attrEq a b = true) → ∀ {a b : S41}, l[k]? = some a → m[k]? = some b → attrEq a b = false → attrsEq l m = false
  | [], _, k, _, a, b, ha, _, _ => by simp at ha
  | _ :: _, [], k, _, a, b, _, hb, _ => by simp at hb
  | x :: l, y :: m, 0, _, a, b, ha, hb, h => by
    simp at ha hb
    subst ha hb
    simp [attrsEq, h]
  | x :: l, y :: m, k + 1, hp, a, b, ha, hb, h => by
    rw [attrsEq, attrsEq_at (l := l) (m := m) (k := k) (fun j hj a b h1 h2 => hp (j + 1) (by omega) a b (by simpa using h1) (by simpa using h2)) (by simpa using ha) (by simpa using hb) h, Bool.and_false]
theorem attrsEq_end : ∀ {l m : List S41}, (∀ (j : Nat) (a b : S41), l[j]? = some a → m[j]? = some b → attrEq a b = true) → attrsEq l m = decide (l.length = m.length)
  | [], [], _ => rfl
  | [], _ :: _, _ => rfl
  | _ :: _, [], _ => rfl
  | x :: l, y :: m, hp => by
    rw [attrsEq, attrsEq_end (l := l) (m := m) (fun j a b h1 h2 => hp (j + 1) a b (by simpa using h1) (by simpa using h2)), hp 0 x y rfl rfl, Bool.true_and]
    simp
section
attribute [local go_sem] min2_nat min_two
attribute [local go_sem high] eqA41
set_option maxHeartbeats 4000000 in
set_option maxRecDepth 100000 in
theorem rows_attrs (A B : Option Addr) (c d : Nat) (l m : List S41) (w : World) (hl : Kd.C k41 w A l.length l) (hm : Kd.C k41 w B m.length m) :
    Calls Tryd.prog 47 #[.slice A l.length c, .slice B m.length d] w fun e w' => e = .returned (.bool (attrsEq l m)) ∧ Below w.heap.size w w' := by
  have hu := Tryd.underlying41
  have hmax : l.length ≤ 9223372036854775807 := hl.2.1
  have HL := Aside0.mk hl
  have HM := Aside0.mk hm
  clear hl hm
  go_enter Tryd.func47, Tryd.ntmps47
  go_wp2
  go_loopw [5, 11] (fun _ i wr => ∃ k : Nat, i = .int .i64 k ∧ k ≤ mnN m.length l.length ∧ Aside0 (∀ j, j < k → ∀ a b, l[j]? = some a → m[j]? = some b → attrEq a b = true) ∧ Aside0 (Below w.heap.size w wr)) (fun _ i _ => mnN m.length l.length - (intOf i).toNat)
  case atStart => exact ⟨0, rfl, Nat.zero_le _, ⟨fun j hj => absurd hj (Nat.not_lt_zero _)⟩, ⟨Below.refl _ _⟩⟩
  case round =>
    obtain ⟨k, rfl, hk, HN, HB⟩ := hrel
    by_cases hlt : k < mnN m.length l.length
    · have hlz : (k : Int) < ((mnN m.length l.length : Nat) : Int) := by omega
      have h1 : k < l.length := by unfold mnN at hlt; omega
      have h2 : k < m.length := by unfold mnN at hlt; omega
      obtain ⟨x, hx, hxe⟩ := getD_at h1
      obtain ⟨y, hy, hye⟩ := getD_at h2
      obtain ⟨ad, e, cx0, cx1⟩ := attr_at (Kd.C_below HL.out HB.out) hx
      obtain ⟨bd, e', cy0, cy1⟩ := attr_at (Kd.C_below HM.out HB.out) hy
      cases e; cases e'
      have HX := Aside0.mk hx
      have HY := Aside0.mk hy
      clear hx hxe hy hye
      have hz1 : (k : Int) < (l.length : Int) := by omega
      have hz2 : (k : Int) < (m.length : Int) := by omega
      cases hq : attrEq x y with
      | true =>
        have hq' : (x.f0.toList == y.f0.toList && (x.f1.toList == y.f1.toList)) = true := hq
        go_wp2_with fail
        go_quiet (fail)
        go_wp2
        go_roundw
        case rel => exact ⟨k + 1, by go_num, by omega, ⟨pre_succ HN.out HX.out HY.out hq⟩, ⟨pw_below_drewN HB.out _⟩⟩
        case measure => simp [intOf]; omega
      | false =>
        have hq' : (x.f0.toList == y.f0.toList && (x.f1.toList == y.f1.toList)) = false := hq
        go_wp2_with fail
        go_quiet (fail)
        go_wp2
        go_ret
        exact ⟨by rw [attrsEq_at HN.out HX.out HY.out hq]; rfl, pw_below_drewN HB.out _⟩
    · obtain rfl : k = mnN m.length l.length := by omega
      have hlz : ¬ ((mnN m.length l.length : Nat) : Int) < ((mnN m.length l.length : Nat) : Int) := by omega
      have hans := attrsEq_end (l := l) (m := m) (fun j a b h1 h2 => HN.out j (by
        have e1 := (List.getElem?_eq_some_iff.1 h1).1
        have e2 := (List.getElem?_eq_some_iff.1 h2).1
        unfold mnN; omega) a b h1 h2)
      go_wp2
      go_ret
      refine ⟨?_, HB.out⟩
      show Ending.returned (.bool ((l.length : Int) == (m.length : Int))) = _
      rw [show decide (l.length = m.length) = ((l.length : Int) == (m.length : Int)) by by_cases e : l.length = m.length <;> simp [e]; omega]
end
set_option maxHeartbeats 4000000 in
set_option maxRecDepth 100000 in
theorem rows_Same1 (x y : S35) (A B : Option Addr) (c d : Nat) (w : World) (hl : Kd.C k41 w A x.f4.length x.f4) (hm : Kd.C k41 w B y.f4.length y.f4) :
    Calls Tryd.prog 46 #[.agg #[.int .i64 x.f0, .int .i64 x.f1, .string x.f2, .string x.f3, .slice A x.f4.length c], .agg #[.int .i64 y.f0, .int .i64 y.f1, .string y.f2, .string y.f3, .slice B y.f4.length d]] w fun e w' => e = .returned (.bool (rowEq x y)) ∧ Below w.heap.size w w' := by
  have hu := Tryd.underlying35
  obtain ⟨x0, x1, x2, x3, x4⟩ := x
  obtain ⟨y0, y1, y2, y3, y4⟩ := y
  simp only at hl hm ⊢
  have hc := fun W (h : Below w.heap.size w W) => rows_attrs A B c d x4 y4 W (Kd.C_below hl h) (Kd.C_below hm h)
  clear hl hm
  unfold rowEq
  simp only
  generalize attrsEq x4 y4 = b4 at hc
  by_cases h0 : x0 = y0
  · subst h0
    by_cases h1 : x1 = y1
    · subst h1
      cases h2 : (x2.toList == y2.toList) with
      | true =>
        cases h3 : (x3.toList == y3.toList) with
        | true =>
          go_enter Tryd.func46, Tryd.ntmps46
          go_wp2_with (go_at_call 47; refine (hc _ (((Below.refl _ w).alloc (Nat.le_refl _) _).alloc (by simp) _)).mono ?_; rintro e w1 ⟨rfl, hb⟩)
          go_ret
          exact ⟨by simp, (((Below.refl _ w).alloc (Nat.le_refl _) _).alloc (by simp) _).trans (hb.mono (by simp; omega))⟩
        | false =>
          go_enter Tryd.func46, Tryd.ntmps46
          go_wp2
          go_ret
          exact ⟨by simp, ((Below.refl _ w).alloc (Nat.le_refl _) _).alloc (by simp) _⟩
      | false =>
        go_enter Tryd.func46, Tryd.ntmps46
        go_wp2
        go_ret
        exact ⟨by simp, ((Below.refl _ w).alloc (Nat.le_refl _) _).alloc (by simp) _⟩
    · have e1 : (x1 == y1) = false := beq_eq_false_iff_ne.mpr h1
      go_enter Tryd.func46, Tryd.ntmps46
      go_wp2
      go_ret
      exact ⟨by simp [e1], ((Below.refl _ w).alloc (Nat.le_refl _) _).alloc (by simp) _⟩
  · have e0 : (x0 == y0) = false := beq_eq_false_iff_ne.mpr h0
    go_enter Tryd.func46, Tryd.ntmps46
    go_wp2
    go_ret
    exact ⟨by simp [e0], ((Below.refl _ w).alloc (Nat.le_refl _) _).alloc (by simp) _⟩
theorem rowsEq_at : ∀ {l m : List S35} {k : Nat}, l.length = m.length → (∀ j, j < k → ∀ a b, l[j]? = some a → m[j]? = some b → rowEq a b = true) → ∀ {a b : S35}, l[k]? = some a → m[k]? = some b → rowEq a b = false → rowsEq l m = false
  | [], _, k, _, _, a, b, ha, _, _ => by simp at ha
  | _ :: _, [], k, _, _, a, b, _, hb, _ => by simp at hb
  | x :: l, y :: m, 0, _, _, a, b, ha, hb, h => by
    simp at ha hb
    subst ha hb
    simp [rowsEq, h]
  | x :: l, y :: m, k + 1, hl, hp, a, b, ha, hb, h => by
    rw [rowsEq, rowsEq_at (l := l) (m := m) (k := k) (by simpa using hl) (fun j hj a b h1 h2 => hp (j + 1) (by omega) a b (by simpa using h1) (by simpa using h2)) (by simpa using ha) (by simpa using hb) h, Bool.and_false]
theorem rowsEq_end : ∀ {l m : List S35}, l.length = m.length → (∀ (j : Nat) (a b : S35), l[j]? = some a → m[j]? = some b → rowEq a b = true) → rowsEq l m = true
  | [], [], _, _ => rfl
  | x :: l, y :: m, hl, hp => by
    rw [rowsEq, rowsEq_end (l := l) (m := m) (by simpa using hl) (fun j a b h1 h2 => hp (j + 1) a b (by simpa using h1) (by simpa using h2)), hp 0 x y rfl rfl]
    rfl
theorem rowsEq_len : ∀ {l m : List S35}, l.length ≠ m.length → rowsEq l m = false
  | [], [], h => absurd rfl h
  | [], _ :: _, _ => rfl
  | _ :: _, [], _ => rfl
  | x :: l, y :: m, h => by
    rw [rowsEq, rowsEq_len (l := l) (m := m) (by simpa using h), Bool.and_false]
set_option maxHeartbeats 4000000 in
set_option maxRecDepth 100000 in
theorem rows_equal (A B : Option Addr) (c d : Nat) (l m : List S35) (w : World) (hl : Kd.C k35 w A l.length l) (hm : Kd.C k35 w B m.length m) :
    Calls Tryd.prog 45 #[.slice A l.length c, .slice B m.length d, .func (.func 46) #[] #[]] w fun e w' => e = .returned (.bool (rowsEq l m)) ∧ Below w.heap.size w w' := by
  have hu := Tryd.underlying35
  have hmax : l.length ≤ 9223372036854775807 := hl.2.1
  have HL := Aside0.mk hl
  have HM := Aside0.mk hm
  clear hl hm
  by_cases hlen : l.length = m.length
  · have hlz : ((l.length : Int) != (m.length : Int)) = false := by simp; omega
    have HE := Aside0.mk hlen
    clear hlen
    go_enter Tryd.func45, Tryd.ntmps45
    go_wp2
    go_loopw [7, 8, 9, 17] (fun _ _ _ i wr => ∃ k : Nat, i = .int .i64 k ∧ k ≤ l.length ∧ Aside0 (∀ j, j < k → ∀ a b, l[j]? = some a → m[j]? = some b → rowEq a b = true) ∧ Aside0 (Below w.heap.size w wr)) (fun _ _ _ i _ => l.length - (intOf i).toNat)
    case atStart => exact ⟨0, rfl, Nat.zero_le _, ⟨fun j hj => absurd hj (Nat.not_lt_zero _)⟩, ⟨Below.refl _ _⟩⟩
    case round =>
      obtain ⟨k, rfl, hk, HN, HB⟩ := hrel
      by_cases hlt : k < l.length
      · have hz1 : (k : Int) < (l.length : Int) := by omega
        have hz2 : (k : Int) < (m.length : Int) := by have := HE.out; omega
        obtain ⟨x, hx, hxe⟩ := getD_at hlt
        obtain ⟨y, hy, hye⟩ := getD_at (show k < m.length by have := HE.out; omega)
        obtain ⟨ad, A4, c4, e, x0, x1, x2, x3, x4, _, hC4⟩ := row_at (Kd.C_below HL.out HB.out) hx
        obtain ⟨bd, B4, d4, e', y0, y1, y2, y3, y4, _, hD4⟩ := row_at (Kd.C_below HM.out HB.out) hy
        cases e; cases e'
        have HX := Aside0.mk hx
        have HY := Aside0.mk hy
        clear hx hxe hy hye
        have hc := fun W (h : Below wr.heap.size wr W) => rows_Same1 x y A4 B4 c4 d4 W (Kd.C_below hC4 h) (Kd.C_below hD4 h)
        clear hC4 hD4
        have y0_ := cell_alloc y0
        have y1_ := cell_alloc y1
        have y2_ := cell_alloc y2
        have y3_ := cell_alloc y3
        have y4_ := cell_alloc y4
        clear y0 y1 y2 y3 y4
        cases hq : rowEq x y with
        | true =>
          rw [hq] at hc
          have HQ := Aside0.mk hq
          clear hq
          go_wp2_with (go_at_call 46; refine (hc _ (((Below.refl _ wr).alloc (Nat.le_refl _) _).alloc (by simp) _)).mono ?_; rintro e w1 ⟨rfl, hb⟩)
          go_roundw
          case rel => exact ⟨k + 1, by go_num, by omega, ⟨pre_succ HN.out HX.out HY.out HQ.out⟩, ⟨HB.out.trans ((((Below.refl _ wr).alloc (Nat.le_refl _) _).alloc (by simp) _ |>.mono (by have := HB.out.size; omega)).trans (hb.mono (by have := HB.out.size; simp; omega)))⟩⟩
          case measure => simp [intOf]; omega
        | false =>
          rw [hq] at hc
          have HQ := Aside0.mk hq
          clear hq
          go_wp2_with (go_at_call 46; refine (hc _ (((Below.refl _ wr).alloc (Nat.le_refl _) _).alloc (by simp) _)).mono ?_; rintro e w1 ⟨rfl, hb⟩)
          go_ret
          refine ⟨by rw [rowsEq_at HE.out HN.out HX.out HY.out HQ.out]; rfl, ?_⟩
          exact HB.out.trans ((((Below.refl _ wr).alloc (Nat.le_refl _) _).alloc (by simp) _ |>.mono (by have := HB.out.size; omega)).trans (hb.mono (by have := HB.out.size; simp; omega)))
      · obtain rfl : k = l.length := by omega
        have hz1 : ¬ (l.length : Int) < (l.length : Int) := by omega
        go_wp2
        go_ret
        refine ⟨?_, HB.out⟩
        rw [rowsEq_end HE.out (fun j a b h1 h2 => HN.out j (List.getElem?_eq_some_iff.1 h1).1 a b h1 h2)]
        rfl
  · have hlz : ((l.length : Int) == (m.length : Int)) = false := beq_eq_false_iff_ne.mpr (by omega)
    go_enter Tryd.func45, Tryd.ntmps45
    go_wp2
    go_ret
    exact ⟨by rw [rowsEq_len hlen]; rfl, Below.refl _ _⟩
set_option maxHeartbeats 1000000 in
theorem rows_Same.calls (A0 : Option Addr) (c0 : Nat) (l0 : List S35) (A1 : Option Addr) (c1 : Nat) (l1 : List S35) (r : Bool) (w : World) (hr0 : Kd.C k35 w A0 l0.length l0) (hc0 : l0.length ≤ c0) (hr1 : Kd.C k35 w A1 l1.length l1) (hc1 : l1.length ≤ c1) (h : rows_Same.f l0 l1 = some r) :
    Calls Tryd.prog 28 #[.slice A0 l0.length c0, .slice A1 l1.length c1] w fun e w' => e = .returned (.bool r) ∧ Below w.heap.size w w' := by
  cases h
  have hc := rows_equal A0 A1 c0 c1 l0 l1 w hr0 hr1
  clear hr0 hr1
  generalize rowsEq l0 l1 = b at hc
  go_enter Tryd.func28, Tryd.ntmps28
  go_wp2_with (go_at_call 45; refine hc.mono ?_; rintro e w1 ⟨rfl, hb⟩)
  go_ret
  exact ⟨rfl, hb⟩
end Go.Proofs.YtpnhjipaeggcpaaDoor.X
end
section
namespace Go.Proofs.YtpnhjipaeggcpaaDoor.X
open Go.RowKit Go.Proofs.YtpnhjipaeggcpaaDoorW.PrintWords Go.Proofs.YtpnhjipaeggcpaaDoorW.PrintLast Go.Proofs.YtpnhjipaeggcpaaDoorW.PrintMore
attribute [local go_sem] max2_int min2_int max_two min_two max_three min_three max_four min_four
def boltinglaw08_one.f (a0 : ByteArray) (a1 : ByteArray) : Option ((List (S35))) := some (([(⟨0, 0, a0, (⟨#[]⟩ : ByteArray), ([] : List (S41))⟩ : S35), (⟨1, 1, (⟨#[]⟩ : ByteArray), a1, ([] : List (S41))⟩ : S35)] : List (S35)))
set_option maxHeartbeats 8000000 in
set_option maxRecDepth 100000 in
theorem boltinglaw08_one.calls (a0 : ByteArray) (a1 : ByteArray) (r : List (S35)) (w : World) (h : boltinglaw08_one.f a0 a1 = some r) :
  Calls Tryd.prog 19 #[.string a0, .string a1] w fun e w' => ∃ v0_ : Value, e = .returned (v0_) ∧ Kd.S k35 35 w' w.heap.size (fun _ => True) v0_ r ∧ Below w.heap.size w w' := by
 have hu35 := Tryd.underlying35
 have HB := Aside0.mk (Below.refl w.heap.size w)
 have H : (some (([(⟨0, 0, a0, (⟨#[]⟩ : ByteArray), ([] : List (S41))⟩ : S35), (⟨1, 1, (⟨#[]⟩ : ByteArray), a1, ([] : List (S41))⟩ : S35)] : List (S35)))) = some r := h
 clear h
 obtain ⟨y299, hy299⟩ : ∃ y_ : List (S35), y_ = (([(⟨0, 0, a0, (⟨#[]⟩ : ByteArray), ([] : List (S41))⟩ : S35), (⟨1, 1, (⟨#[]⟩ : ByteArray), a1, ([] : List (S41))⟩ : S35)] : List (S35))) := ⟨_, rfl⟩
 replace H : (some y299) = some r := by first | (rw [hy299]; with_reducible exact H) | (have H2_ := (Option.bind_some _ _).symm.trans H; rw [hy299]; with_reducible exact H2_) | (have H2_ := (Option.bind_some _ _).symm.trans H; with_reducible exact H2_) | with_reducible exact H | (rw [hy299]; exact H) | exact H
 have Ny299 := Aside0.mk hy299
 clear hy299
 obtain rfl := Option.some.inj H
 go_enter Tryd.func19, Tryd.ntmps19
 go_wp2_with (first | ((with_reducible refine gate_dst (N := 9) rfl ?_); refine Kd.S_lit k35 _ 35 ?hg (N := 9) ?hd (xs := ([(⟨0, 0, a0, (⟨#[]⟩ : ByteArray), ([] : List (S41))⟩ : S35), (⟨1, 1, (⟨#[]⟩ : ByteArray), a1, ([] : List (S41))⟩ : S35)] : List (S35))) (inner := [.int .i64 0, .int .i64 0, .string a0, .string (⟨#[]⟩ : ByteArray), .slice none 0 0, .int .i64 1, .int .i64 1, .string (⟨#[]⟩ : ByteArray), .string a1, .slice none 0 0]) (ok := fun _ => True) (okp := fun _ => True) ?hr ?hp (fun _ hk => hk) trivial (Below.refl _ _) (Nat.le_refl _) (by simp) ?_; (case hd => rfl); (case hg => rfl); (case hr => first | (go_simp; done) | (go_simp; rfl)); (case hp => exact (Reps.c5 (show Kd.M k35 _ _ _ (⟨0, 0, a0, (⟨#[]⟩ : ByteArray), ([] : List (S41))⟩ : S35) [.int .i64 0, .int .i64 0, .string a0, .string (⟨#[]⟩ : ByteArray), .slice none 0 0] from (k35_mkM _ _ _ (⟨0, 0, a0, (⟨#[]⟩ : ByteArray), ([] : List (S41))⟩ : S35) (Kd.R_nil _ _ _ _ _))) (Reps.c5 (show Kd.M k35 _ _ _ (⟨1, 1, (⟨#[]⟩ : ByteArray), a1, ([] : List (S41))⟩ : S35) [.int .i64 1, .int .i64 1, .string (⟨#[]⟩ : ByteArray), .string a1, .slice none 0 0] from (k35_mkM _ _ _ (⟨1, 1, (⟨#[]⟩ : ByteArray), a1, ([] : List (S41))⟩ : S35) (Kd.R_nil _ _ _ _ _))) (Reps.none _ _)))); intro v300 w3 ho4 hb hg_ hnew_; clear hg_ hnew_; (first | rw [← Ny299.out] at ho4 | (simp only [Int.reduceToNat] at ho4; rw [← Ny299.out] at ho4)); have n0_ := Aside0.mk (Kd.S_lower ho4 (below_size y13_)); have n1_ := Aside0.mk (below_step y13_ hb); clear HB; have HO301 := n0_; have HB := n1_; clear n0_ n1_; clear hb ho4))
 go_ret
 exact ⟨_, y12_, by (with_reducible repeat (first | apply Kd.S_alloc | apply Kd.S_drewN | apply Kd.S_drew)); exact HO301.out, y13_⟩
end Go.Proofs.YtpnhjipaeggcpaaDoor.X
end
section
namespace Go.Proofs
open Go.Shelf
def Tryd.lays169_ren : Go.Shelf.Ren := ⟨fun | 169 => 41 | n => n, fun | 70 => 51 | 9 => 9 | 0 => 0 | 72 => 54 | 37 => 52 | 127 => 71 | 3 => 3 | 5 => 5 | n => n, fun | n => n⟩
theorem Tryd.lays169 : Go.Proofs.Lays.n169 Tryd.prog Tryd.lays169_ren := {
  mixed := by kernel_rfl
  f169 := Tryd.func41.trans (congrArg some (by kernel_rfl))
  t0 := Tryd.underlying0
  a0 := Tryd.isAgg0
  z0 := Tryd.sizeOf0
  v0 := Tryd.zeroValue0
  t3 := Tryd.underlying3
  a3 := Tryd.isAgg3
  z3 := Tryd.sizeOf3
  v3 := Tryd.zeroValue3
  t9 := Tryd.underlying9
  a9 := Tryd.isAgg9
  z9 := Tryd.sizeOf9
  v9 := Tryd.zeroValue9
  t37 := Tryd.underlying52
  a37 := Tryd.isAgg52
  z37 := Tryd.sizeOf52
  v37 := Tryd.zeroValue52
  t70 := Tryd.underlying51
  a70 := Tryd.isAgg51
  z70 := Tryd.sizeOf51
  v70 := Tryd.zeroValue51
  t72 := Tryd.underlying54
  a72 := Tryd.isAgg54
  z72 := Tryd.sizeOf54
  v72 := Tryd.zeroValue54
  t127 := Tryd.underlying71
  a127 := Tryd.isAgg71
  z127 := Tryd.sizeOf71
  v127 := Tryd.zeroValue71 }
theorem Tryd.Builder_Extra_169 : Builder.Extra Tryd.prog Tryd.lays169_ren := {
  sizeBuilder := by kernel_rfl
  liesBuilder := by kernel_rfl
  t5 := Tryd.underlying5
  a5 := Tryd.isAgg5
  z5 := Tryd.sizeOf5
  v5 := Tryd.zeroValue5
  infoByte := by kernel_rfl
  cellsByte := by kernel_rfl
  sizeByte := by kernel_rfl
  neB5 := by decide }
open Go.RowKit in
theorem Tryd.Builder_String_any (B b : Nat) (l : List UInt8) (w : World) (h : Lib.IsBuilder 54 5 B b (Lib.byteCells l) w) (hBw : B ≤ w.heap.size) :
    Calls Tryd.prog 41 #[.pointer (some ⟨b, 0, none⟩)] w fun e w' => e = .returned (.string ⟨l.toArray⟩) ∧ Below B w w' := Any.Builder_String_any Tryd.lays169 Tryd.Builder_Extra_169 B b l w h hBw
def Tryd.lays119_ren : Go.Shelf.Ren := ⟨fun | 119 => 96 | n => n, fun | 21 => 21 | 4 => 4 | n => n, fun | n => n⟩
theorem Tryd.lays119 : Go.Proofs.Lays.n119 Tryd.prog Tryd.lays119_ren := {
  mixed := by kernel_rfl
  f119 := Tryd.func96.trans (congrArg some (by kernel_rfl))
  t4 := Tryd.underlying4
  a4 := Tryd.isAgg4
  z4 := Tryd.sizeOf4
  v4 := Tryd.zeroValue4
  t21 := Tryd.underlying21
  a21 := Tryd.isAgg21
  z21 := Tryd.sizeOf21
  v21 := Tryd.zeroValue21 }
theorem Tryd.utf8_ValidRune (r : Int) (w : World) :
    Calls Tryd.prog 96 #[.int .i32 r] w fun e w' => e = .returned (.bool (Lib.validRune r)) ∧ w' = w := Any.utf8_ValidRune Tryd.lays119 r w
def Tryd.lays137_ren : Go.Shelf.Ren := ⟨fun | 137 => 95 | 217 => 99 | 266 => 103 | n => n, fun | 9 => 9 | 5 => 5 | 3 => 3 | n => n, fun | n => n⟩
theorem Tryd.lays137 : Go.Proofs.Lays.n137 Tryd.prog Tryd.lays137_ren := {
  mixed := by kernel_rfl
  f137 := Tryd.func95.trans (congrArg some (by kernel_rfl))
  f217 := Tryd.func99.trans (congrArg some (by kernel_rfl))
  f266 := Tryd.func103.trans (congrArg some (by kernel_rfl))
  t3 := Tryd.underlying3
  a3 := Tryd.isAgg3
  z3 := Tryd.sizeOf3
  v3 := Tryd.zeroValue3
  t5 := Tryd.underlying5
  a5 := Tryd.isAgg5
  z5 := Tryd.sizeOf5
  v5 := Tryd.zeroValue5
  t9 := Tryd.underlying9
  a9 := Tryd.isAgg9
  z9 := Tryd.sizeOf9
  v9 := Tryd.zeroValue9 }
open Go.RowKit in
theorem Tryd.strings_IndexByte (s : ByteArray) (c : Int) (w : World) :
    Calls Tryd.prog 95 #[.string s, .int .u8 c] w fun e w' => e = .returned (.int .i64 (Lib.indexByte s.data.toList c.toNat.toUInt8)) ∧ w' = w := Any.strings_IndexByte Tryd.lays137 s c w
def Tryd.lays219_ren : Go.Shelf.Ren := ⟨fun | 219 => 89 | 217 => 99 | 225 => 98 | 224 => 97 | 267 => 100 | 266 => 103 | 314 => 104 | n => n, fun | 9 => 9 | 3 => 3 | 4 => 4 | 5 => 5 | 46 => 88 | 146 => 105 | 51 => 104 | n => n, fun | 1 => 2 | n => n⟩
def Tryd.lays144_ren : Go.Shelf.Ren := ⟨fun | 144 => 51 | 143 => 70 | 219 => 89 | 217 => 99 | 225 => 98 | 224 => 97 | 267 => 100 | 266 => 103 | 314 => 104 | n => n, fun | 9 => 9 | 4 => 4 | 3 => 3 | 5 => 5 | 46 => 88 | 146 => 105 | 51 => 104 | n => n, fun | 1 => 2 | n => n⟩
theorem Tryd.lays144 : Go.Proofs.Lays.n144 Tryd.prog Tryd.lays144_ren := {
  mixed := by kernel_rfl
  f143 := Tryd.func70.trans (congrArg some (by kernel_rfl))
  f144 := Tryd.func51.trans (congrArg some (by kernel_rfl))
  f217 := Tryd.func99.trans (congrArg some (by kernel_rfl))
  f219 := Tryd.func89.trans (congrArg some (by kernel_rfl))
  f224 := Tryd.func97.trans (congrArg some (by kernel_rfl))
  f225 := Tryd.func98.trans (congrArg some (by kernel_rfl))
  f266 := Tryd.func103.trans (congrArg some (by kernel_rfl))
  f267 := Tryd.func100.trans (congrArg some (by kernel_rfl))
  f314 := Tryd.func104.trans (congrArg some (by kernel_rfl))
  t3 := Tryd.underlying3
  a3 := Tryd.isAgg3
  z3 := Tryd.sizeOf3
  v3 := Tryd.zeroValue3
  t4 := Tryd.underlying4
  a4 := Tryd.isAgg4
  z4 := Tryd.sizeOf4
  v4 := Tryd.zeroValue4
  t5 := Tryd.underlying5
  a5 := Tryd.isAgg5
  z5 := Tryd.sizeOf5
  v5 := Tryd.zeroValue5
  t9 := Tryd.underlying9
  a9 := Tryd.isAgg9
  z9 := Tryd.sizeOf9
  v9 := Tryd.zeroValue9
  t46 := Tryd.underlying88
  a46 := Tryd.isAgg88
  z46 := Tryd.sizeOf88
  v46 := Tryd.zeroValue88
  t51 := Tryd.underlying104
  a51 := Tryd.isAgg104
  z51 := Tryd.sizeOf104
  v51 := Tryd.zeroValue104
  t146 := Tryd.underlying105
  a146 := Tryd.isAgg105
  z146 := Tryd.sizeOf105
  v146 := Tryd.zeroValue105
  g1 := by kernel_rfl }
open Go.RowKit Go.Lib in
theorem Tryd.strings_Contains (s sub : ByteArray) (m : Int) (w : World) (hs : s.size < 4294967281) (hm : w.cell? ⟨2, 0, none⟩ = some (.int .i64 m)) :
    Calls Tryd.prog 51 #[.string s, .string sub] w fun e w' => e = .returned (.bool (Lib.contains s.data.toList sub.data.toList)) ∧ w' = w := Any.strings_Contains Tryd.lays144 s sub m w hs hm
def Tryd.lays206_ren : Go.Shelf.Ren := ⟨fun | 206 => 71 | n => n, fun | 9 => 9 | 4 => 4 | 3 => 3 | n => n, fun | n => n⟩
def Tryd.lays99_ren : Go.Shelf.Ren := ⟨fun | 99 => 52 | 206 => 71 | n => n, fun | 9 => 9 | 4 => 4 | 3 => 3 | n => n, fun | n => n⟩
theorem Tryd.lays99 : Go.Proofs.Lays.n99 Tryd.prog Tryd.lays99_ren := {
  mixed := by kernel_rfl
  f99 := Tryd.func52.trans (congrArg some (by kernel_rfl))
  f206 := Tryd.func71.trans (congrArg some (by kernel_rfl))
  t3 := Tryd.underlying3
  a3 := Tryd.isAgg3
  z3 := Tryd.sizeOf3
  v3 := Tryd.zeroValue3
  t4 := Tryd.underlying4
  a4 := Tryd.isAgg4
  z4 := Tryd.sizeOf4
  v4 := Tryd.zeroValue4
  t9 := Tryd.underlying9
  a9 := Tryd.isAgg9
  z9 := Tryd.sizeOf9
  v9 := Tryd.zeroValue9 }
open Go.RowKit Go.Lib in
theorem Tryd.strings_HasPrefix (s p : ByteArray) (w : World) :
    Calls Tryd.prog 52 #[.string s, .string p] w fun e w' => e = .returned (.bool (Lib.hasPrefix s.data.toList p.data.toList)) ∧ w' = w := Any.strings_HasPrefix Tryd.lays99 s p w
def Tryd.lays152_ren : Go.Shelf.Ren := ⟨fun | 152 => 85 | 137 => 95 | 119 => 96 | 224 => 97 | 225 => 98 | 217 => 99 | 266 => 103 | n => n, fun | 9 => 9 | 21 => 21 | 3 => 3 | 4 => 4 | 5 => 5 | 0 => 0 | 46 => 88 | n => n, fun | n => n⟩
theorem Tryd.lays152 : Go.Proofs.Lays.n152 Tryd.prog Tryd.lays152_ren := {
  mixed := by kernel_rfl
  f119 := Tryd.func96.trans (congrArg some (by kernel_rfl))
  f137 := Tryd.func95.trans (congrArg some (by kernel_rfl))
  f152 := Tryd.func85.trans (congrArg some (by kernel_rfl))
  f217 := Tryd.func99.trans (congrArg some (by kernel_rfl))
  f224 := Tryd.func97.trans (congrArg some (by kernel_rfl))
  f225 := Tryd.func98.trans (congrArg some (by kernel_rfl))
  f266 := Tryd.func103.trans (congrArg some (by kernel_rfl))
  t0 := Tryd.underlying0
  a0 := Tryd.isAgg0
  z0 := Tryd.sizeOf0
  v0 := Tryd.zeroValue0
  t3 := Tryd.underlying3
  a3 := Tryd.isAgg3
  z3 := Tryd.sizeOf3
  v3 := Tryd.zeroValue3
  t4 := Tryd.underlying4
  a4 := Tryd.isAgg4
  z4 := Tryd.sizeOf4
  v4 := Tryd.zeroValue4
  t5 := Tryd.underlying5
  a5 := Tryd.isAgg5
  z5 := Tryd.sizeOf5
  v5 := Tryd.zeroValue5
  t9 := Tryd.underlying9
  a9 := Tryd.isAgg9
  z9 := Tryd.sizeOf9
  v9 := Tryd.zeroValue9
  t21 := Tryd.underlying21
  a21 := Tryd.isAgg21
  z21 := Tryd.sizeOf21
  v21 := Tryd.zeroValue21
  t46 := Tryd.underlying88
  a46 := Tryd.isAgg88
  z46 := Tryd.sizeOf88
  v46 := Tryd.zeroValue88 }
open Go.RowKit Go.Lib in
theorem Tryd.strings_IndexRune_ascii (s : ByteArray) (r : Int) (w : World) (h0 : 0 ≤ r) (h1 : r < 128) :
    Calls Tryd.prog 85 #[.string s, .int .i32 r] w fun e w' => e = .returned (.int .i64 (Lib.indexByte s.data.toList r.toNat.toUInt8)) ∧ w' = w := Any.strings_IndexRune_ascii Tryd.lays152 s r w h0 h1
def Tryd.lays226_ren : Go.Shelf.Ren := ⟨fun | 226 => 86 | n => n, fun | 3 => 3 | 4 => 4 | n => n, fun | n => n⟩
theorem Tryd.lays226 : Go.Proofs.Lays.n226 Tryd.prog Tryd.lays226_ren := {
  mixed := by kernel_rfl
  f226 := Tryd.func86.trans (congrArg some (by kernel_rfl))
  t3 := Tryd.underlying3
  a3 := Tryd.isAgg3
  z3 := Tryd.sizeOf3
  v3 := Tryd.zeroValue3
  t4 := Tryd.underlying4
  a4 := Tryd.isAgg4
  z4 := Tryd.sizeOf4
  v4 := Tryd.zeroValue4 }
open Go.RowKit Go.Lib in
theorem Tryd.strings_shouldUseASCIISet (n : Int) (w : World) :
    Calls Tryd.prog 86 #[.int .i64 n] w fun e w' => e = .returned (.bool (decide (8 < n))) ∧ w' = w := Any.strings_shouldUseASCIISet Tryd.lays226 n w
def Tryd.lays153_ren : Go.Shelf.Ren := ⟨fun | 153 => 69 | 152 => 85 | 226 => 86 | 227 => 87 | 228 => 88 | 137 => 95 | 119 => 96 | 224 => 97 | 225 => 98 | 217 => 99 | 266 => 103 | n => n, fun | 9 => 9 | 3 => 3 | 4 => 4 | 5 => 5 | 21 => 21 | 117 => 92 | 116 => 91 | 0 => 0 | 46 => 88 | 124 => 101 | n => n, fun | n => n⟩
theorem Tryd.lays153 : Go.Proofs.Lays.n153 Tryd.prog Tryd.lays153_ren := {
  mixed := by kernel_rfl
  f119 := Tryd.func96.trans (congrArg some (by kernel_rfl))
  f137 := Tryd.func95.trans (congrArg some (by kernel_rfl))
  f152 := Tryd.func85.trans (congrArg some (by kernel_rfl))
  f153 := Tryd.func69.trans (congrArg some (by kernel_rfl))
  f217 := Tryd.func99.trans (congrArg some (by kernel_rfl))
  f224 := Tryd.func97.trans (congrArg some (by kernel_rfl))
  f225 := Tryd.func98.trans (congrArg some (by kernel_rfl))
  f226 := Tryd.func86.trans (congrArg some (by kernel_rfl))
  f227 := Tryd.func87.trans (congrArg some (by kernel_rfl))
  f228 := Tryd.func88.trans (congrArg some (by kernel_rfl))
  f266 := Tryd.func103.trans (congrArg some (by kernel_rfl))
  t0 := Tryd.underlying0
  a0 := Tryd.isAgg0
  z0 := Tryd.sizeOf0
  v0 := Tryd.zeroValue0
  t3 := Tryd.underlying3
  a3 := Tryd.isAgg3
  z3 := Tryd.sizeOf3
  v3 := Tryd.zeroValue3
  t4 := Tryd.underlying4
  a4 := Tryd.isAgg4
  z4 := Tryd.sizeOf4
  v4 := Tryd.zeroValue4
  t5 := Tryd.underlying5
  a5 := Tryd.isAgg5
  z5 := Tryd.sizeOf5
  v5 := Tryd.zeroValue5
  t9 := Tryd.underlying9
  a9 := Tryd.isAgg9
  z9 := Tryd.sizeOf9
  v9 := Tryd.zeroValue9
  t21 := Tryd.underlying21
  a21 := Tryd.isAgg21
  z21 := Tryd.sizeOf21
  v21 := Tryd.zeroValue21
  t46 := Tryd.underlying88
  a46 := Tryd.isAgg88
  z46 := Tryd.sizeOf88
  v46 := Tryd.zeroValue88
  t116 := Tryd.underlying91
  a116 := Tryd.isAgg91
  z116 := Tryd.sizeOf91
  t117 := Tryd.underlying92
  a117 := Tryd.isAgg92
  z117 := Tryd.sizeOf92
  v117 := Tryd.zeroValue92
  t124 := Tryd.underlying101
  a124 := Tryd.isAgg101
  z124 := Tryd.sizeOf101
  v124 := Tryd.zeroValue101 }
open Go.RowKit Go.Lib in
theorem Tryd.strings_IndexAny_long (hv116 : ∀ w, (zeroValue 91).run Tryd.prog w = .ok (.agg (Array.replicate 256 (.bool false))) w) (s chars : ByteArray) (w : World) (h2 : 2 ≤ chars.size) (h8 : 8 < s.size) (hs : s.size < 4294967281) (hcs : chars.size < 4294967281) (hascii : ∀ (j : Nat) b, chars.data.toList[j]? = some b → b.toNat < 128) :
    Calls Tryd.prog 69 #[.string s, .string chars] w fun e w' => e = .returned (.int .i64 (Lib.indexAny s.data.toList chars.data.toList)) ∧ w' = ((w.alloc (.cells (Lib.setCells chars.data.toList) 91)).alloc (.cells (Lib.setCells chars.data.toList) 91)) := Any.strings_IndexAny_long Tryd.lays153 hv116 (by kernel_rfl) s chars w h2 h8 hs hcs hascii
def Tryd.lays196_ren : Go.Shelf.Ren := ⟨fun | 196 => 68 | 259 => 84 | n => n, fun | 9 => 9 | 4 => 4 | 3 => 3 | 5 => 5 | 12 => 12 | 119 => 84 | 0 => 0 | 46 => 88 | 139 => 87 | 138 => 86 | 53 => 97 | n => n, fun | 3 => 0 | 4 => 1 | n => n⟩
theorem Tryd.lays196 : Go.Proofs.Lays.n196 Tryd.prog Tryd.lays196_ren := {
  mixed := by kernel_rfl
  f196 := Tryd.func68.trans (congrArg some (by kernel_rfl))
  f259 := Tryd.func84.trans (congrArg some (by kernel_rfl))
  t0 := Tryd.underlying0
  a0 := Tryd.isAgg0
  z0 := Tryd.sizeOf0
  v0 := Tryd.zeroValue0
  t3 := Tryd.underlying3
  a3 := Tryd.isAgg3
  z3 := Tryd.sizeOf3
  v3 := Tryd.zeroValue3
  t4 := Tryd.underlying4
  a4 := Tryd.isAgg4
  z4 := Tryd.sizeOf4
  v4 := Tryd.zeroValue4
  t5 := Tryd.underlying5
  a5 := Tryd.isAgg5
  z5 := Tryd.sizeOf5
  v5 := Tryd.zeroValue5
  t9 := Tryd.underlying9
  a9 := Tryd.isAgg9
  z9 := Tryd.sizeOf9
  v9 := Tryd.zeroValue9
  t12 := Tryd.underlying12
  a12 := Tryd.isAgg12
  z12 := Tryd.sizeOf12
  v12 := Tryd.zeroValue12
  t46 := Tryd.underlying88
  a46 := Tryd.isAgg88
  z46 := Tryd.sizeOf88
  v46 := Tryd.zeroValue88
  t53 := Tryd.underlying97
  a53 := Tryd.isAgg97
  z53 := Tryd.sizeOf97
  v53 := Tryd.zeroValue97
  t119 := Tryd.underlying84
  a119 := Tryd.isAgg84
  z119 := Tryd.sizeOf84
  t138 := Tryd.underlying86
  a138 := Tryd.isAgg86
  z138 := Tryd.sizeOf86
  v138 := Tryd.zeroValue86
  t139 := Tryd.underlying87
  a139 := Tryd.isAgg87
  z139 := Tryd.sizeOf87
  v139 := Tryd.zeroValue87
  g3 := by kernel_rfl
  g4 := by kernel_rfl }
end Go.Proofs
end
