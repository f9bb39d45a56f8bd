/- A part of a proof, put together by this session's own program out of its texts. -/
import Derived.Test.YtpnhjipaeggcpaaDoorE1
import Derived.Test.YtpnhjipaeggcpaaDoorProg
import Derived.Shelf.Unicode.DecodeSlow
import Derived.RangeFuncBox
import Derived.RangeFuncLeaves
import Derived.RangeFuncCalls
import Derived.RangeFuncWrites
import Derived.Shelf.Abstract
import Derived.OwnWalkIn
import Derived.TacticsInMore
import Derived.LoopNIn
import Derived.LoopIn
import Derived.Sort.QuietIn
set_option linter.unusedVariables false
set_option linter.unusedSimpArgs false
namespace Go.Proofs.YtpnhjipaeggcpaaDoor.X
theorem y0_ {p q0 : Prop} (a0 : q0) (t : q0 → p := by intro h0_; rw [h0_, List.length_take]; omega) : p := t a0
theorem y1_ {p : Prop} (t : p := by first | omega | exact Nat.le_refl _) : p := t
theorem y2_ {p : Prop} (t : p := by first | (with_reducible assumption) | assumption) : p := t
theorem y3_ {p : Prop} (t : p := by repeat (first | exact Drawn0.refl _ | apply Drawn0.step)) : p := t
theorem y4_ {p : Prop} (t : p := by first | rfl | (simp; done) | (simp [*]; done) | (simp [bne_nil8]; done)) : p := t
theorem y5_ {p q0 : Prop} (a0 : q0) (t : q0 → p := by intro h0_; have := World.block_lt_of_cell? _ _ h0_; first | rwa [add_block] at this | exact this) : p := t a0
theorem y6_ {p : Prop} (t : p := by simp only [putAll, Act.put, List.setIfInBounds_toArray, List.set_cons_zero, List.set_cons_succ]) : p := t
theorem y7_ {p q0 : Prop} (a0 : q0) (t : q0 → p := by intro h0_; (with_reducible repeat (first | apply Kd.V_alloc | apply Kd.V_drewN | apply Kd.V_drew)); exact h0_) : p := t a0
theorem y8_ {p q0 : Prop} (a0 : q0) (t : q0 → p := by intro h0_; (with_reducible repeat (first | apply Kd.N_alloc | apply Kd.N_drewN | apply Kd.N_drew)); exact h0_) : p := t a0
theorem y9_ {p q0 : Prop} (a0 : q0) (t : q0 → p := by intro h0_; (with_reducible repeat (first | apply Kd.S_alloc | apply Kd.S_drewN | apply Kd.S_drew)); exact h0_) : p := t a0
theorem y10_ {p q0 : Prop} (a0 : q0) (t : q0 → p := by intro h0_; (with_reducible repeat (first | apply Kd.R_alloc | apply Kd.R_drewN | apply Kd.R_drew)); exact h0_) : p := t a0
theorem y11_ {p q0 : Prop} (a0 : q0) (t : q0 → p := by intro h0_; (with_reducible repeat (first | refine blk_drewN ?_ _ | refine blk_drew ?_ | refine blk_alloc ?_ _)); exact h0_) : p := t a0
theorem y12_ {p : Prop} (t : p := by first | rfl | (simp [errW_none, errW_some] <;> rfl) | (simp [*, errW_none, errW_some] <;> rfl) | (simp [bne_nil8]; done)) : p := t
theorem y13_ {p : Prop} (t : p := by repeat (first | (with_reducible first | exact HB.out | apply below_alloc | apply pw_below_drewN | apply below_drew1) | exact HB.out)) : p := t
theorem y14_ {p : Prop} (t : p := by (try simp only [List.map_toArray, List.map_cons, List.map_nil]); first | done | rfl | (simp only [List.length_drop, List.length_take]; rfl)) : p := t
theorem y15_ {p : Prop} (t : p := by first | exact Kd.R_nil _ _ _ _ _ | exact Kd.N_nil _ _ _ _ _ | exact Kd.V_nil _ _ _ _ _ | exact Kd.Q_nil _ _ _ _ _ | exact Kd.S_nil _ _ _ _ _) : p := t
theorem y16_ {p q0 : Prop} (a0 : q0) (t : q0 → p := by intro h0_; first | exact q253 | exact of_decide_eq_true (by first | (with_reducible assumption) | assumption) | (have e_ := (Kd.N_reads' h0_).1; omega)) : p := t a0
theorem y17_ {p q0 : Prop} (a0 : q0) (t : q0 → p := by intro h0_; (with_reducible repeat (first | apply Kd.V_alloc | apply Kd.V_drewN | apply Kd.V_drew)); exact Kd.V_mono h0_ (fun _ hk => ⟨⟨hk.1, hk.2.2⟩, hk.2.1⟩)) : p := t a0
theorem y18_ {p q0 : Prop} (a0 : q0) (t : q0 → p := by intro h0_; (with_reducible repeat (first | apply Kd.S_alloc | apply Kd.S_drewN | apply Kd.S_drew)); exact Kd.S_mono h0_ (fun k_ hk => ⟨hk.2, fun e_ => hk.1 e_⟩)) : p := t a0
theorem y19_ {p q0 : Prop} (a0 : q0) (t : q0 → p := by intro h0_; repeat (first | (with_reducible first | exact HB.out | apply below_alloc | apply pw_below_drewN | apply below_drew1 | refine below_set ?_ h0_) | exact HB.out)) : p := t a0
theorem y20_ {p q0 : Prop} (a0 : q0) (t : q0 → p := by intro h0_; repeat (first | (with_reducible exact h0_) | (with_reducible refine Kd.C_alloc ?_ _) | (with_reducible refine Kd.C_drewN ?_ _) | (with_reducible refine Kd.C_drew ?_) | exact h0_)) : p := t a0
theorem y21_ {p q0 : Prop} (a0 : q0) (t : q0 → p := by intro h0_; rw [hw]; exact (by repeat (first | (with_reducible first | exact HB.out | apply below_alloc | apply pw_below_drewN | apply below_drew1 | refine below_set ?_ h0_) | exact HB.out))) : p := t a0
theorem y22_ {p q0 q1 : Prop} (a0 : q0) (a1 : q1) (t : q0 → q1 → p := by intro h0_ h1_; repeat (first | (with_reducible first | exact HB.out | apply below_alloc | apply pw_below_drewN | apply below_drew1 | refine below_set ?_ h0_ | refine below_set ?_ h1_) | exact HB.out)) : p := t a0 a1
theorem y23_ {p : Prop} (t : p := by repeat (first | (with_reducible first | exact HB.out | apply below_alloc | apply pw_below_drewN | apply below_drew1) | exact HB.out | (refine below_set ?_ (Aside0.out (by assumption))))) : p := t
theorem y24_ {p : Prop} (t : p := by first | rfl | (simp [errW_none, errW_some] <;> rfl) | (simp only [← hji15]; first | rfl | (simp [errW_none, errW_some] <;> rfl)) | (simp [*, errW_none, errW_some] <;> rfl) | (simp [bne_nil8]; done)) : p := t
theorem y25_ {p : Prop} (t : p := by first | rfl | (simp [errW_none, errW_some] <;> rfl) | (simp only [← hji16]; first | rfl | (simp [errW_none, errW_some] <;> rfl)) | (simp [*, errW_none, errW_some] <;> rfl) | (simp [bne_nil8]; done)) : p := t
theorem y26_ {p q0 q1 q2 : Prop} (a0 : q0) (a1 : q1) (a2 : q2) (t : q0 → q1 → q2 → p := by intro h0_ h1_ h2_; repeat (first | (with_reducible first | exact HB.out | apply below_alloc | apply pw_below_drewN | apply below_drew1 | refine below_set ?_ h0_ | refine below_set ?_ h1_ | refine below_set ?_ h2_) | exact HB.out)) : p := t a0 a1 a2
theorem y27_ {p q0 : Prop} (a0 : q0) (t : q0 → p := by intro h0_; (with_reducible repeat (first | apply Kd.V_alloc | apply Kd.V_drewN | apply Kd.V_drew)); exact Kd.V_mono (Kd.V_far (p := ⟨gb105, 4, none⟩) (Kd.V_mono h0_ (fun k_ hk => (⟨hk, hk.2.2⟩ : _ ∧ k_ ≠ gb105))) (fun _ hk => hk.2) (.slice A104_4 y106.length c104_4)) (fun _ hk => ⟨hk.1.1, ⟨hk.1.2.1, hk.1.2.2⟩⟩)) : p := t a0
theorem y28_ {p q0 : Prop} (a0 : q0) (t : q0 → p := by intro h0_; rw [hw]; exact (by (with_reducible repeat (first | apply Kd.V_alloc | apply Kd.V_drewN | apply Kd.V_drew)); exact Kd.V_mono (Kd.V_far (p := ⟨gb105, 4, none⟩) (Kd.V_mono h0_ (fun k_ hk => (⟨hk, hk.2.2⟩ : _ ∧ k_ ≠ gb105))) (fun _ hk => hk.2) (.slice A104_4 y106.length c104_4)) (fun _ hk => ⟨hk.1.1, ⟨hk.1.2.1, hk.1.2.2⟩⟩))) : p := t a0
theorem y29_ {p q0 q1 : Prop} (a0 : q0) (a1 : q1) (t : q0 → q1 → p := by intro h0_ h1_; (with_reducible repeat (first | refine blk_drewN ?_ _ | refine blk_drew ?_ | refine blk_alloc ?_ _)); refine blk_far ?_ h0_ _; (with_reducible repeat (first | refine blk_drewN ?_ _ | refine blk_drew ?_ | refine blk_alloc ?_ _)); refine blk_far ?_ h0_ _; (with_reducible repeat (first | refine blk_drewN ?_ _ | refine blk_drew ?_ | refine blk_alloc ?_ _)); exact h1_) : p := t a0 a1
theorem y30_ {p q0 : Prop} (a0 : q0) (t : q0 → p := by intro h0_; (with_reducible repeat (first | refine blk_drewN ?_ _ | refine blk_drew ?_ | refine blk_alloc ?_ _)); refine blk_put (cs := #[.string ((rd_T41 l0_4 x32_2).f0), .string (⟨#[]⟩ : ByteArray)]) ?_ 1 _ rfl; (with_reducible repeat (first | refine blk_drewN ?_ _ | refine blk_drew ?_ | refine blk_alloc ?_ _)); refine blk_put (cs := #[.string (⟨#[]⟩ : ByteArray), .string (⟨#[]⟩ : ByteArray)]) ?_ 0 _ rfl; (with_reducible repeat (first | refine blk_drewN ?_ _ | refine blk_drew ?_ | refine blk_alloc ?_ _)); exact h0_) : p := t a0
theorem y31_ {p q0 q1 : Prop} (a0 : q0) (a1 : q1) (t : q0 → q1 → p := by intro h0_ h1_; first | exact Nat.ne_of_lt (Nat.lt_of_lt_of_le (by have := World.block_lt_of_cell? _ _ h0_; first | rwa [add_block] at this | exact this) h1_) | (rw [add_block]; exact Nat.ne_of_lt (Nat.lt_of_lt_of_le (by have := World.block_lt_of_cell? _ _ h0_; first | rwa [add_block] at this | exact this) h1_)) | (show (Addr.add _ _).block ≠ _; rw [add_block]; exact Nat.ne_of_lt (Nat.lt_of_lt_of_le (by have := World.block_lt_of_cell? _ _ h0_; first | rwa [add_block] at this | exact this) h1_)) | (dsimp only; exact Nat.ne_of_lt (Nat.lt_of_lt_of_le (by have := World.block_lt_of_cell? _ _ h0_; first | rwa [add_block] at this | exact this) h1_))) : p := t a0 a1
theorem y32_ {p q0 : Prop} (a0 : q0) (t : q0 → p := by intro h0_; (with_reducible repeat (first | apply Kd.V_alloc | apply Kd.V_drewN | apply Kd.V_drew)); exact Kd.V_mono (Kd.V_far (p := ⟨gb105, 4, none⟩) (Kd.V_far (p := ⟨gb105, 3, none⟩) (Kd.V_far (p := ⟨gb105, 2, none⟩) (Kd.V_far (p := ⟨gb105, 1, none⟩) (Kd.V_far (p := ⟨gb105, 0, none⟩) (Kd.V_mono h0_ (fun k_ hk => (⟨hk, hk.2⟩ : _ ∧ k_ ≠ gb105))) (fun _ hk => hk.2) (.int .i64 ((rd_T35 l0 x4_1).f0))) (fun _ hk => hk.2) (.int .i64 ((rd_T35 l0 x4_1).f1))) (fun _ hk => hk.2) (.string ((rd_T35 l0 x4_1).f2))) (fun _ hk => hk.2) (.string ((rd_T35 l0 x4_1).f3))) (fun _ hk => hk.2) (.slice A104_4 ((rd_T35 l0 x4_1).f4).length c104_4)) (fun _ hk => ⟨hk.1.1.1, ⟨hk.1.1.2, hk.1.2⟩⟩)) : p := t a0
theorem y33_ {p q0 : Prop} (a0 : q0) (t : q0 → p := by intro h0_; rw [hw]; exact (by (with_reducible repeat (first | apply Kd.V_alloc | apply Kd.V_drewN | apply Kd.V_drew)); exact Kd.V_mono (Kd.V_far (p := ⟨gb105, 4, none⟩) (Kd.V_far (p := ⟨gb105, 3, none⟩) (Kd.V_far (p := ⟨gb105, 2, none⟩) (Kd.V_far (p := ⟨gb105, 1, none⟩) (Kd.V_far (p := ⟨gb105, 0, none⟩) (Kd.V_mono h0_ (fun k_ hk => (⟨hk, hk.2⟩ : _ ∧ k_ ≠ gb105))) (fun _ hk => hk.2) (.int .i64 ((rd_T35 l0 x4_1).f0))) (fun _ hk => hk.2) (.int .i64 ((rd_T35 l0 x4_1).f1))) (fun _ hk => hk.2) (.string ((rd_T35 l0 x4_1).f2))) (fun _ hk => hk.2) (.string ((rd_T35 l0 x4_1).f3))) (fun _ hk => hk.2) (.slice A104_4 ((rd_T35 l0 x4_1).f4).length c104_4)) (fun _ hk => ⟨hk.1.1.1, ⟨hk.1.1.2, hk.1.2⟩⟩))) : p := t a0
theorem y34_ {p q0 : Prop} (a0 : q0) (t : q0 → p := by intro h0_; (with_reducible repeat (first | refine blk_drewN ?_ _ | refine blk_drew ?_ | refine blk_alloc ?_ _)); refine blk_put (cs := #[.int .i64 ((rd_T35 l0 a1).f0), .int .i64 ((rd_T35 l0 a1).f1), .string ((rd_T35 l0 a1).f2), .string ((rd_T35 l0 a1).f3), .slice none 0 0]) ?_ 4 _ rfl; (with_reducible repeat (first | refine blk_drewN ?_ _ | refine blk_drew ?_ | refine blk_alloc ?_ _)); refine blk_put (cs := #[.int .i64 ((rd_T35 l0 a1).f0), .int .i64 ((rd_T35 l0 a1).f1), .string ((rd_T35 l0 a1).f2), .string (⟨#[]⟩ : ByteArray), .slice none 0 0]) ?_ 3 _ rfl; (with_reducible repeat (first | refine blk_drewN ?_ _ | refine blk_drew ?_ | refine blk_alloc ?_ _)); refine blk_put (cs := #[.int .i64 ((rd_T35 l0 a1).f0), .int .i64 ((rd_T35 l0 a1).f1), .string (⟨#[]⟩ : ByteArray), .string (⟨#[]⟩ : ByteArray), .slice none 0 0]) ?_ 2 _ rfl; (with_reducible repeat (first | refine blk_drewN ?_ _ | refine blk_drew ?_ | refine blk_alloc ?_ _)); refine blk_put (cs := #[.int .i64 ((rd_T35 l0 a1).f0), .int .i64 0, .string (⟨#[]⟩ : ByteArray), .string (⟨#[]⟩ : ByteArray), .slice none 0 0]) ?_ 1 _ rfl; (with_reducible repeat (first | refine blk_drewN ?_ _ | refine blk_drew ?_ | refine blk_alloc ?_ _)); refine blk_put (cs := #[.int .i64 0, .int .i64 0, .string (⟨#[]⟩ : ByteArray), .string (⟨#[]⟩ : ByteArray), .slice none 0 0]) ?_ 0 _ rfl; (with_reducible repeat (first | refine blk_drewN ?_ _ | refine blk_drew ?_ | refine blk_alloc ?_ _)); exact h0_) : p := t a0
theorem y35_ {p q0 : Prop} (a0 : q0) (t : q0 → p := by intro h0_; (with_reducible repeat (first | refine blk_drewN ?_ _ | refine blk_drew ?_ | refine blk_alloc ?_ _)); refine blk_put (cs := #[.int .i64 ((rd_T35 l0 x18_2).f0), .int .i64 ((rd_T35 l0 x18_2).f1), .string ((rd_T35 l0 x18_2).f2), .string ((rd_T35 l0 x18_2).f3), .slice none 0 0]) ?_ 4 _ rfl; (with_reducible repeat (first | refine blk_drewN ?_ _ | refine blk_drew ?_ | refine blk_alloc ?_ _)); refine blk_put (cs := #[.int .i64 ((rd_T35 l0 x18_2).f0), .int .i64 ((rd_T35 l0 x18_2).f1), .string ((rd_T35 l0 x18_2).f2), .string (⟨#[]⟩ : ByteArray), .slice none 0 0]) ?_ 3 _ rfl; (with_reducible repeat (first | refine blk_drewN ?_ _ | refine blk_drew ?_ | refine blk_alloc ?_ _)); refine blk_put (cs := #[.int .i64 ((rd_T35 l0 x18_2).f0), .int .i64 ((rd_T35 l0 x18_2).f1), .string (⟨#[]⟩ : ByteArray), .string (⟨#[]⟩ : ByteArray), .slice none 0 0]) ?_ 2 _ rfl; (with_reducible repeat (first | refine blk_drewN ?_ _ | refine blk_drew ?_ | refine blk_alloc ?_ _)); refine blk_put (cs := #[.int .i64 ((rd_T35 l0 x18_2).f0), .int .i64 0, .string (⟨#[]⟩ : ByteArray), .string (⟨#[]⟩ : ByteArray), .slice none 0 0]) ?_ 1 _ rfl; (with_reducible repeat (first | refine blk_drewN ?_ _ | refine blk_drew ?_ | refine blk_alloc ?_ _)); refine blk_put (cs := #[.int .i64 0, .int .i64 0, .string (⟨#[]⟩ : ByteArray), .string (⟨#[]⟩ : ByteArray), .slice none 0 0]) ?_ 0 _ rfl; (with_reducible repeat (first | refine blk_drewN ?_ _ | refine blk_drew ?_ | refine blk_alloc ?_ _)); exact h0_) : p := t a0
theorem y36_ {p q0 : Prop} (a0 : q0) (t : q0 → p := by intro h0_; rw [hw]; exact (by (with_reducible repeat (first | refine blk_drewN ?_ _ | refine blk_drew ?_ | refine blk_alloc ?_ _)); refine blk_put (cs := #[.int .i64 ((rd_T35 l0 x18_2).f0), .int .i64 ((rd_T35 l0 x18_2).f1), .string ((rd_T35 l0 x18_2).f2), .string ((rd_T35 l0 x18_2).f3), .slice none 0 0]) ?_ 4 _ rfl; (with_reducible repeat (first | refine blk_drewN ?_ _ | refine blk_drew ?_ | refine blk_alloc ?_ _)); refine blk_put (cs := #[.int .i64 ((rd_T35 l0 x18_2).f0), .int .i64 ((rd_T35 l0 x18_2).f1), .string ((rd_T35 l0 x18_2).f2), .string (⟨#[]⟩ : ByteArray), .slice none 0 0]) ?_ 3 _ rfl; (with_reducible repeat (first | refine blk_drewN ?_ _ | refine blk_drew ?_ | refine blk_alloc ?_ _)); refine blk_put (cs := #[.int .i64 ((rd_T35 l0 x18_2).f0), .int .i64 ((rd_T35 l0 x18_2).f1), .string (⟨#[]⟩ : ByteArray), .string (⟨#[]⟩ : ByteArray), .slice none 0 0]) ?_ 2 _ rfl; (with_reducible repeat (first | refine blk_drewN ?_ _ | refine blk_drew ?_ | refine blk_alloc ?_ _)); refine blk_put (cs := #[.int .i64 ((rd_T35 l0 x18_2).f0), .int .i64 0, .string (⟨#[]⟩ : ByteArray), .string (⟨#[]⟩ : ByteArray), .slice none 0 0]) ?_ 1 _ rfl; (with_reducible repeat (first | refine blk_drewN ?_ _ | refine blk_drew ?_ | refine blk_alloc ?_ _)); refine blk_put (cs := #[.int .i64 0, .int .i64 0, .string (⟨#[]⟩ : ByteArray), .string (⟨#[]⟩ : ByteArray), .slice none 0 0]) ?_ 0 _ rfl; (with_reducible repeat (first | refine blk_drewN ?_ _ | refine blk_drew ?_ | refine blk_alloc ?_ _)); exact h0_)) : p := t a0
theorem y37_ {p q0 : Prop} (a0 : q0) (t : q0 → p := by intro h0_; first | exact q253 | exact of_decide_eq_true y2_ | (have e_ := (Kd.N_reads' h0_).1; omega)) : p := t a0
theorem y38_ {p q0 q1 : Prop} (a0 : q0) (a1 : q1) (t : q0 → q1 → p := by intro h0_ h1_; first | exact Nat.ne_of_lt (Nat.lt_of_lt_of_le (y5_ h0_) h1_) | (rw [add_block]; exact Nat.ne_of_lt (Nat.lt_of_lt_of_le (y5_ h0_) h1_)) | (show (Addr.add _ _).block ≠ _; rw [add_block]; exact Nat.ne_of_lt (Nat.lt_of_lt_of_le (y5_ h0_) h1_)) | (dsimp only; exact Nat.ne_of_lt (Nat.lt_of_lt_of_le (y5_ h0_) h1_))) : p := t a0 a1
end Go.Proofs.YtpnhjipaeggcpaaDoor.X
section
namespace Go.Proofs.YtpnhjipaeggcpaaDoor.X
open Go.RowKit
theorem bne_nil8 (l : List UInt8) : (l != []) = !l.isEmpty := by cases l <;> rfl
theorem lit_size (l : List UInt8) : (ByteArray.mk (List.toArray l)).size = l.length := rfl
def WF (w : World) : Prop :=
  Lib.Utf8Tabs 0 1 w ∧ ∃ m : Int, w.cell? ⟨2, 0, none⟩ = some (.int .i64 m)
theorem WF.below {w w1 : World} (h : WF w) (hb : Below w.heap.size w w1) : WF w1 := by
  obtain ⟨h1, m, hm⟩ := h
  exact ⟨Utf8Tabs_below h1 hb, m, (hb.cell (World.block_lt_of_cell? w _ hm)).trans hm⟩
end Go.Proofs.YtpnhjipaeggcpaaDoor.X
end
section
namespace Go.Proofs.YtpnhjipaeggcpaaDoor.X
open Go.RowKit Go.Proofs.YtpnhjipaeggcpaaDoorW.PrintWords Go.Proofs.YtpnhjipaeggcpaaDoorW.PrintLast Go.Proofs.YtpnhjipaeggcpaaDoorW.PrintMore
attribute [local go_sem] max2_int min2_int max_two min_two max_three min_three max_four min_four
def errW : Option Int → Value
  | none => .nilIface
  | some c => .iface 0 (.int .i64 c)
theorem errW_none : errW none = .nilIface := rfl
theorem errW_some (c : Int) : errW (some c) = .iface 0 (.int .i64 c) := rfl
theorem info9 : (Tryd.prog.info? 9).map (fun i => (i.zero, i.size, i.bytes)) = some (some (.string ⟨#[]⟩), 1, 16) := by kernel_rfl
theorem info35 : (Tryd.prog.info? 35).map (fun i => (i.zero, i.size, i.bytes)) = some (some (.agg #[(.int .i64 0), (.int .i64 0), (.string ⟨#[]⟩), (.string ⟨#[]⟩), (.slice none 0 0)]), 5, 72) := by kernel_rfl
theorem info41 : (Tryd.prog.info? 41).map (fun i => (i.zero, i.size, i.bytes)) = some (some (.agg #[(.string ⟨#[]⟩), (.string ⟨#[]⟩)]), 2, 32) := by kernel_rfl
structure S41 where
  f0 : ByteArray
  f1 : ByteArray
def z41 : S41 := ⟨(⟨#[]⟩ : ByteArray), (⟨#[]⟩ : ByteArray)⟩
def k41 : Kd S41 := Kd.iso (Kd.pair Kd.string Kd.string) (fun x : S41 => (x.f0, x.f1))
theorem k41_heap : Kd.Heap k41 := Kd.heap_iso _ (Kd.heap_pair Kd.heap_string Kd.heap_string)
theorem k41_open {w : World} {x : S41} {cs : List Value} (h : k41.K w x cs) : cs = [.string x.f0, .string x.f1] := by
  obtain ⟨_, _, rfl, rfl, rfl⟩ := h
  exact rfl
theorem k41_mk (w : World) (x : S41)  : k41.K w x [.string x.f0, .string x.f1] := ⟨[.string x.f0], [.string x.f1], rfl, rfl, rfl⟩
theorem k41_mkM (w : World) (base : Nat) (ok : Nat → Prop) (x : S41)  : k41.M w base ok x [.string x.f0, .string x.f1] := ⟨[.string x.f0], [.string x.f1], rfl, rfl, rfl⟩
def rd_T41 (xs : List S41) (i : Int) : S41 := xs.getD i.toNat z41
theorem at_T41 {w : World} {A : Option Addr} {n : Nat} {xs : List S41} (h : Kd.C k41 w A n xs) (i : Int) (h0 : 0 ≤ i) (h1 : i < n) : ∃ ad , A = some ad ∧ w.cell? (ad.add (i.toNat * 2)) = some (.string (rd_T41 xs i).f0) ∧ w.cell? ⟨(ad.add (i.toNat * 2)).block, (ad.add (i.toNat * 2)).off + 1, none⟩ = some (.string (rd_T41 xs i).f1) := by
  obtain ⟨ad, c, e, _, hK, hc0⟩ := Kd.C_get h z41 i h0 h1
  have hc : ∀ j u, c[j]? = some u → w.cell? (ad.add (i.toNat * 2 + j)) = some u := hc0
  obtain rfl := k41_open hK
  exact ⟨ad, e, hc 0 _ rfl, by rw [← add_field _ _ 1 (by omega)]; exact hc 1 _ rfl⟩
structure S35 where
  f0 : Int
  f1 : Int
  f2 : ByteArray
  f3 : ByteArray
  f4 : (List S41)
def z35 : S35 := ⟨(0 : Int), (0 : Int), (⟨#[]⟩ : ByteArray), (⟨#[]⟩ : ByteArray), ([] : List S41)⟩
def k35 : Kd S35 := Kd.iso (Kd.pair (Kd.int .i64) (Kd.pair (Kd.int .i64) (Kd.pair Kd.string (Kd.pair Kd.string (Kd.slice 41 k41))))) (fun x : S35 => (x.f0, x.f1, x.f2, x.f3, x.f4))
theorem k35_heap : Kd.Heap k35 := Kd.heap_iso _ (Kd.heap_pair (Kd.heap_int .i64) (Kd.heap_pair (Kd.heap_int .i64) (Kd.heap_pair Kd.heap_string (Kd.heap_pair Kd.heap_string (Kd.heap_slice 41 k41_heap)))))
theorem k35_open {w : World} {x : S35} {cs : List Value} (h : k35.K w x cs) : ∃ A4 c4, cs = [.int .i64 x.f0, .int .i64 x.f1, .string x.f2, .string x.f3, .slice A4 x.f4.length c4] ∧ x.f4.length ≤ c4 ∧ k41.C w A4 x.f4.length x.f4 := by
  obtain ⟨_, _, rfl, rfl, ⟨_, _, rfl, rfl, ⟨_, _, rfl, rfl, ⟨_, _, rfl, rfl, ⟨A4, c4, rfl, l4, g4⟩⟩⟩⟩⟩ := h
  exact ⟨A4, c4, rfl, l4, g4⟩
theorem k35_openM {w : World} {base : Nat} {ok : Nat → Prop} {x : S35} {cs : List Value} (h : k35.M w base ok x cs) : ∃ v4, cs = [.int .i64 x.f0, .int .i64 x.f1, .string x.f2, .string x.f3, v4] ∧ k41.R 41 w base ok v4 x.f4 := by
  obtain ⟨_, _, rfl, rfl, ⟨_, _, rfl, rfl, ⟨_, _, rfl, rfl, ⟨_, _, rfl, rfl, ⟨v4, rfl, g4⟩⟩⟩⟩⟩ := h
  exact ⟨v4, rfl, g4⟩
theorem k35_mk (w : World) (x : S35) {A4 : Option Addr} {c4 : Nat} (l4 : x.f4.length ≤ c4) (g4 : k41.C w A4 x.f4.length x.f4) : k35.K w x [.int .i64 x.f0, .int .i64 x.f1, .string x.f2, .string x.f3, .slice A4 x.f4.length c4] := ⟨[.int .i64 x.f0], [.int .i64 x.f1, .string x.f2, .string x.f3, .slice A4 x.f4.length c4], rfl, rfl, ⟨[.int .i64 x.f1], [.string x.f2, .string x.f3, .slice A4 x.f4.length c4], rfl, rfl, ⟨[.string x.f2], [.string x.f3, .slice A4 x.f4.length c4], rfl, rfl, ⟨[.string x.f3], [.slice A4 x.f4.length c4], rfl, rfl, ⟨A4, c4, rfl, l4, g4⟩⟩⟩⟩⟩
theorem k35_mkM (w : World) (base : Nat) (ok : Nat → Prop) (x : S35) {v4 : Value} (g4 : k41.R 41 w base ok v4 x.f4) : k35.M w base ok x [.int .i64 x.f0, .int .i64 x.f1, .string x.f2, .string x.f3, v4] := ⟨[.int .i64 x.f0], [.int .i64 x.f1, .string x.f2, .string x.f3, v4], rfl, rfl, ⟨[.int .i64 x.f1], [.string x.f2, .string x.f3, v4], rfl, rfl, ⟨[.string x.f2], [.string x.f3, v4], rfl, rfl, ⟨[.string x.f3], [v4], rfl, rfl, ⟨v4, rfl, g4⟩⟩⟩⟩⟩
theorem k35_openF {W : World} {ok : Nat → Prop} {x : S35} {cs : List Value} (h : Kd.FK k35 W ok x cs) : ∃ A4 c4, cs = [.int .i64 x.f0, .int .i64 x.f1, .string x.f2, .string x.f3, .slice A4 x.f4.length c4] ∧ x.f4.length ≤ c4 ∧ Kd.F k41 W ok A4 x.f4.length x.f4 := by
  obtain ⟨A4, c4, rfl, l4, _⟩ := k35_open (Kd.FK_now h)
  exact ⟨A4, c4, rfl, l4, (fun W' hW => by obtain ⟨A4_, c4_, he, l4_, g4_⟩ := k35_open (h W' hW); injection (Option.some.inj (show some (Value.slice A4 x.f4.length c4) = some (Value.slice A4_ x.f4.length c4_) from congrArg (fun l => l[4]?) he)) with ha_ _ _; rw [ha_]; exact g4_)⟩
theorem k35_mkF (W : World) (ok : Nat → Prop) (x : S35) {A4 : Option Addr} {c4 : Nat} (l4 : x.f4.length ≤ c4) (g4 : Kd.F k41 W ok A4 x.f4.length x.f4) : Kd.FK k35 W ok x [.int .i64 x.f0, .int .i64 x.f1, .string x.f2, .string x.f3, .slice A4 x.f4.length c4] := fun W2 hW => k35_mk W2 x l4 (g4 W2 hW)
def rd_T35 (xs : List S35) (i : Int) : S35 := xs.getD i.toNat z35
theorem at_T35 {w : World} {A : Option Addr} {n : Nat} {xs : List S35} (h : Kd.C k35 w A n xs) (i : Int) (h0 : 0 ≤ i) (h1 : i < n) : ∃ ad A4 c4, A = some ad ∧ w.cell? (ad.add (i.toNat * 5)) = some (.int .i64 (rd_T35 xs i).f0) ∧ w.cell? ⟨(ad.add (i.toNat * 5)).block, (ad.add (i.toNat * 5)).off + 1, none⟩ = some (.int .i64 (rd_T35 xs i).f1) ∧ w.cell? ⟨(ad.add (i.toNat * 5)).block, (ad.add (i.toNat * 5)).off + 2, none⟩ = some (.string (rd_T35 xs i).f2) ∧ w.cell? ⟨(ad.add (i.toNat * 5)).block, (ad.add (i.toNat * 5)).off + 3, none⟩ = some (.string (rd_T35 xs i).f3) ∧ w.cell? ⟨(ad.add (i.toNat * 5)).block, (ad.add (i.toNat * 5)).off + 4, none⟩ = some (.slice A4 (rd_T35 xs i).f4.length c4) ∧ (rd_T35 xs i).f4.length ≤ c4 ∧ k41.C w A4 (rd_T35 xs i).f4.length (rd_T35 xs i).f4 := by
  obtain ⟨ad, c, e, _, hK, hc0⟩ := Kd.C_get h z35 i h0 h1
  have hc : ∀ j u, c[j]? = some u → w.cell? (ad.add (i.toNat * 5 + j)) = some u := hc0
  obtain ⟨A4, c4, rfl, l4, g4⟩ := k35_open hK
  exact ⟨ad, A4, c4, e, hc 0 _ rfl, by rw [← add_field _ _ 1 (by omega)]; exact hc 1 _ rfl, by rw [← add_field _ _ 2 (by omega)]; exact hc 2 _ rfl, by rw [← add_field _ _ 3 (by omega)]; exact hc 3 _ rfl, by rw [← add_field _ _ 4 (by omega)]; exact hc 4 _ rfl, l4, g4⟩
end Go.Proofs.YtpnhjipaeggcpaaDoor.X
end
section
namespace Go.Proofs.YtpnhjipaeggcpaaDoor.X
open Go.RowKit Go.Proofs.YtpnhjipaeggcpaaDoorW.PrintWords Go.Proofs.YtpnhjipaeggcpaaDoorW.PrintLast Go.Proofs.YtpnhjipaeggcpaaDoorW.PrintMore
theorem row_at {w : World} {A : Option Addr} {n : Nat} {l : List S35} (h : Kd.C k35 w A n l) {k : Nat} {x : S35} (hx : l[k]? = some x) :
    ∃ ad A4 c4, A = some ad ∧ w.cell? (ad.add (k * 5)) = some (.int .i64 x.f0) ∧ w.cell? ⟨(ad.add (k * 5)).block, (ad.add (k * 5)).off + 1, none⟩ = some (.int .i64 x.f1) ∧
      w.cell? ⟨(ad.add (k * 5)).block, (ad.add (k * 5)).off + 2, none⟩ = some (.string x.f2) ∧ w.cell? ⟨(ad.add (k * 5)).block, (ad.add (k * 5)).off + 3, none⟩ = some (.string x.f3) ∧
      w.cell? ⟨(ad.add (k * 5)).block, (ad.add (k * 5)).off + 4, none⟩ = some (.slice A4 x.f4.length c4) ∧ x.f4.length ≤ c4 ∧ Kd.C k41 w A4 x.f4.length x.f4 := by
  have hk : k < l.length := (List.getElem?_eq_some_iff.1 hx).1
  have hn : l.length = n := h.1
  have e : rd_T35 l (k : Int) = x := by simp [rd_T35, hx]
  have := at_T35 h (k : Int) (by omega) (by omega)
  rw [e, Int.toNat_natCast] at this
  exact this
theorem attr_at {w : World} {A : Option Addr} {n : Nat} {l : List S41} (h : Kd.C k41 w A n l) {k : Nat} {x : S41} (hx : l[k]? = some x) :
    ∃ ad, A = some ad ∧ w.cell? (ad.add (k * 2)) = some (.string x.f0) ∧ w.cell? ⟨(ad.add (k * 2)).block, (ad.add (k * 2)).off + 1, none⟩ = some (.string x.f1) := by
  have hk : k < l.length := (List.getElem?_eq_some_iff.1 hx).1
  have hn : l.length = n := h.1
  have e : rd_T41 l (k : Int) = x := by simp [rd_T41, hx]
  have := at_T41 h (k : Int) (by omega) (by omega)
  rw [e, Int.toNat_natCast] at this
  exact this
theorem str_at {w : World} {A : Option Addr} {n : Nat} {l : List ByteArray} (h : Kd.C Kd.string w A n l) {k : Nat} {x : ByteArray} (hx : l[k]? = some x) :
    ∃ ad, A = some ad ∧ w.cell? (ad.add k) = some (.string x) := by
  have hk : k < l.length := (List.getElem?_eq_some_iff.1 hx).1
  have hn : l.length = n := h.1
  obtain ⟨ad, c, e, _, hK, hc0⟩ := Kd.C_get h (⟨#[]⟩ : ByteArray) (k : Int) (by omega) (by omega)
  obtain rfl : c = [.string (l.getD (k : Int).toNat ⟨#[]⟩)] := hK
  refine ⟨ad, e, ?_⟩
  have := hc0 0 _ rfl
  simpa [hx, show Kd.string.sz = 1 from rfl] using this
theorem int_at {w : World} {A : Option Addr} {n : Nat} {l : List Int} (h : Kd.C (Kd.int .i64) w A n l) {k : Nat} {x : Int} (hx : l[k]? = some x) :
    ∃ ad, A = some ad ∧ w.cell? (ad.add k) = some (.int .i64 x) := by
  have hk : k < l.length := (List.getElem?_eq_some_iff.1 hx).1
  have hn : l.length = n := h.1
  obtain ⟨ad, c, e, _, hK, hc0⟩ := Kd.C_get h (0 : Int) (k : Int) (by omega) (by omega)
  obtain rfl : c = [.int .i64 (l.getD (k : Int).toNat 0)] := hK
  refine ⟨ad, e, ?_⟩
  have := hc0 0 _ rfl
  simpa [hx, show (Kd.int .i64).sz = 1 from rfl] using this
theorem cell_alloc {w : World} {a : Addr} {v : Value} (h : w.cell? a = some v) (o : Obj) : (w.alloc o).cell? a = some v := by rw [World.cell?_alloc_lt _ _ _ (World.block_lt_of_cell? w _ h)]; exact h
theorem leO_le {α : Type} {f : Nat → Option α} (h : ∀ k, LeO (f k) (f (k + 1))) {r : α} {k : Nat} (hk : f k = some r) : ∀ {m : Nat}, k ≤ m → f m = some r := fun {m} hm => by
  obtain ⟨d, rfl⟩ := Nat.exists_eq_add_of_le hm
  clear hm
  induction d with
  | zero => exact hk
  | succ d ih => exact h _ _ ih
theorem getD_at {α : Type} {l : List α} {k : Nat} (hk : k < l.length) : ∃ x, l[k]? = some x ∧ l[k] = x := ⟨l[k], List.getElem?_eq_getElem hk, rfl⟩
end Go.Proofs.YtpnhjipaeggcpaaDoor.X
end
section
namespace Go.Proofs.YtpnhjipaeggcpaaDoor.X
open Go.RowKit Go.Proofs.YtpnhjipaeggcpaaDoorW.PrintWords Go.Proofs.YtpnhjipaeggcpaaDoorW.PrintLast Go.Proofs.YtpnhjipaeggcpaaDoorW.PrintMore
attribute [local go_sem] max2_int min2_int max_two min_two max_three min_three max_four min_four
def rows_is.f (l0 : List (S35)) (a1 : Int) : Option (Bool) := if a1 ≥ 0 then (some (decide (a1 < (l0.length : Int)))) else (some false)
set_option maxHeartbeats 8000000 in
set_option maxRecDepth 100000 in
theorem rows_is.calls (A0 : Option Addr) (c0 : Nat) (l0 : List (S35)) (a1 : Int) (r : Bool) (w : World) (hr0 : Kd.C k35 w A0 l0.length l0) (hc0 : l0.length ≤ c0) (h : rows_is.f l0 a1 = some r) :
  Calls Tryd.prog 59 #[.slice A0 l0.length c0, .int .i64 a1] w fun e w' => e = .returned (.bool r) ∧ Drawn0 w w' := by
 have HR0 := Aside0.mk hr0
 have HC0 := Aside0.mk hc0
 clear hr0 hc0
 have H : (if a1 ≥ 0 then (some (decide (a1 < (l0.length : Int)))) else (some false)) = some r := h
 clear h
 by_cases c3 : a1 ≥ 0
 ·rw [if_pos c3] at H
  have c3b0 : decide (0 ≤ a1) = true := decide_eq_true c3
  clear c3
  obtain rfl := Option.some.inj H
  go_enter Tryd.func59, Tryd.ntmps59
  go_wp2
  go_ret
  exact ⟨y4_, y3_⟩
 ·rw [if_neg c3] at H
  have c3b0 : decide (0 ≤ a1) = false := decide_eq_false c3
  clear c3
  obtain rfl := Option.some.inj H
  go_enter Tryd.func59, Tryd.ntmps59
  go_wp2
  go_ret
  exact ⟨y4_, y3_⟩
end Go.Proofs.YtpnhjipaeggcpaaDoor.X
end
section
namespace Go.Proofs.YtpnhjipaeggcpaaDoor.X
open Go.RowKit Go.Proofs.YtpnhjipaeggcpaaDoorW.PrintWords Go.Proofs.YtpnhjipaeggcpaaDoorW.PrintLast Go.Proofs.YtpnhjipaeggcpaaDoorW.PrintMore
attribute [local go_sem] max2_int min2_int max_two min_two max_three min_three max_four min_four
def rows_End.l0 : Nat → List (S35) → Int → Int → Option (Int)
 | 0, _, _, _ => none
 | k + 1, x0, x1, x5 => if x5 < (x0.length : Int) then (if 0 ≤ x5 then (if 0 ≤ x1 then (if x1 < (x0.length : Int) then (if ((rd_T35 x0 x5).f0) > ((rd_T35 x0 x1).f0) then (rows_End.l0 k x0 x1 (wrap64 (x5 + 1))) else (some x5)) else (none)) else (none)) else (none)) else (some x5)
def rows_End.f (k : Nat) (l0 : List (S35)) (a1 : Int) : Option (Int) := (rows_is.f l0 a1).bind fun t460 => (if t460 = true then (rows_End.l0 k l0 a1 (wrap64 (a1 + 1))) else (some 0))
theorem rows_End.mono_l : ∀ k, (∀ y0 y1 y2, LeO (rows_End.l0 k y0 y1 y2) (rows_End.l0 (k + 1) y0 y1 y2))
 | 0 => fun _ _ _ r h => by simp [rows_End.l0] at h
 | k + 1 => by
  have ih0 := rows_End.mono_l k
  ·intro y0 y1 y2
   unfold rows_End.l0
   repeat' first
   | (with_reducible exact ih0 _ _ _)
   | (with_reducible exact LeO.refl _)
   | (with_reducible exact LeO.none _)
   | (with_reducible refine LeO.ite ?_ ?_)
   | (with_reducible refine LeO.bind ?_ (fun _ => ?_))
   | exact ih0 _ _ _
   | exact LeO.none _
   | refine LeO.ite ?_ ?_
   | refine LeO.bind ?_ (fun _ => ?_)
set_option maxHeartbeats 8000000 in
set_option maxRecDepth 100000 in
theorem rows_End.calls (k : Nat) (A0 : Option Addr) (c0 : Nat) (l0 : List (S35)) (a1 : Int) (r : Int) (w : World) (hr0 : Kd.C k35 w A0 l0.length l0) (hc0 : l0.length ≤ c0) (h : rows_End.f k l0 a1 = some r) :
  Calls Tryd.prog 80 #[.slice A0 l0.length c0, .int .i64 a1] w fun e w' => e = .returned (.int .i64 r) ∧ Drawn0 w w' := by
 have HR0 := Aside0.mk hr0
 have HC0 := Aside0.mk hc0
 clear hr0 hc0
 have H : ((rows_is.f l0 a1).bind fun t460 => (if t460 = true then (rows_End.l0 k l0 a1 (wrap64 (a1 + 1))) else (some 0))) = some r := h
 clear h
 replace H := Option.bind_eq_some_iff.mp H
 obtain ⟨t460, A30, H⟩ := H
 have A3 := Aside0.mk A30
 clear A30
 by_cases c4 : t460 = true
 ·subst c4
  rw [if_pos rfl] at H
  have H' := Aside0.mk H
  clear H
  go_enter Tryd.func80, Tryd.ntmps80
  go_wp2_with (first | (go_at_call 59; (with_reducible refine (rows_is.calls _ _ l0 a1 true _ ?side1 ?side2 A3.out).mono ?_); (case side1 => repeat (first | exact HR0.out | (with_reducible refine Kd.C_alloc ?_ _) | (with_reducible refine Kd.C_drewN ?_ _) | (with_reducible refine Kd.C_drew ?_))); (case side2 => exact HC0.out); rintro e w' ⟨rfl, ⟨nd, rfl⟩⟩; (try first | exact ⟨rfl, _, World.drewN_drewN _ _ _⟩ | exact ⟨rfl, _, Eq.trans (World.drewN_drewN _ _ _) (congrArg (World.drewN _) (Nat.add_assoc _ _ _))⟩)))
  repeat (go_quiet (first | (go_at_call 59; (with_reducible refine (rows_is.calls _ _ l0 a1 true _ ?side1 ?side2 A3.out).mono ?_); (case side1 => repeat (first | exact HR0.out | (with_reducible refine Kd.C_alloc ?_ _) | (with_reducible refine Kd.C_drewN ?_ _) | (with_reducible refine Kd.C_drew ?_))); (case side2 => exact HC0.out); rintro e w' ⟨rfl, ⟨nd, rfl⟩⟩; (try first | exact ⟨rfl, _, World.drewN_drewN _ _ _⟩ | exact ⟨rfl, _, Eq.trans (World.drewN_drewN _ _ _) (congrArg (World.drewN _) (Nat.add_assoc _ _ _))⟩))); try go_wp2_with (first | (go_at_call 59; (with_reducible refine (rows_is.calls _ _ l0 a1 true _ ?side1 ?side2 A3.out).mono ?_); (case side1 => repeat (first | exact HR0.out | (with_reducible refine Kd.C_alloc ?_ _) | (with_reducible refine Kd.C_drewN ?_ _) | (with_reducible refine Kd.C_drew ?_))); (case side2 => exact HC0.out); rintro e w' ⟨rfl, ⟨nd, rfl⟩⟩; (try first | exact ⟨rfl, _, World.drewN_drewN _ _ _⟩ | exact ⟨rfl, _, Eq.trans (World.drewN_drewN _ _ _) (congrArg (World.drewN _) (Nat.add_assoc _ _ _))⟩))))
  go_loopg [5] k (fun kq v5 w' => ∃ (x5_1 : Int), v5 = .int .i64 x5_1 ∧ Aside0 (rows_End.l0 kq l0 a1 x5_1 = some r) ∧ Aside0 (kq ≤ k) ∧ Drawn0 w w')
  case atStart => exact ⟨(wrap64 (a1 + 1)), y4_, H', ⟨Nat.le_refl _⟩, y3_⟩
  case round =>
   clear H'
   try clear p2
   try clear c4
   obtain ⟨x5_1, rfl, HA, HK1, ⟨m1, rfl⟩⟩ := hrel
   cases gk with
   | zero => exact absurd HA.out (by simp [rows_End.l0])
   | succ k1 =>
    have H := HA.out
    clear HA
    simp only [rows_End.l0] at H
    by_cases c5 : x5_1 < (l0.length : Int)
    ·rw [if_pos c5] at H
     have c5b0 : decide (x5_1 < (l0.length : Int)) = true := decide_eq_true c5
     clear c5
     by_cases c6 : 0 ≤ x5_1
     rotate_left
     ·rw [if_neg c6] at H
      exact absurd H (by simp)
     rw [if_pos c6] at H
     have c6b0 : decide (0 ≤ x5_1) = true := decide_eq_true c6
     clear c6
     by_cases c7 : 0 ≤ a1
     rotate_left
     ·rw [if_neg c7] at H
      exact absurd H (by simp)
     rw [if_pos c7] at H
     have c7b0 : decide (0 ≤ a1) = true := decide_eq_true c7
     clear c7
     by_cases c8 : a1 < (l0.length : Int)
     rotate_left
     ·rw [if_neg c8] at H
      exact absurd H (by simp)
     rw [if_pos c8] at H
     have c8b0 : decide (a1 < (l0.length : Int)) = true := decide_eq_true c8
     clear c8
     by_cases c9 : ((rd_T35 l0 x5_1).f0) > ((rd_T35 l0 a1).f0)
     ·rw [if_pos c9] at H
      have c9b0 : decide (((rd_T35 l0 a1).f0) < ((rd_T35 l0 x5_1).f0)) = true := decide_eq_true c9
      clear c9
      have H' := Aside0.mk H
      clear H
      have p461 : 0 ≤ (x5_1 : Int) := of_decide_eq_true y2_
      have q461 : x5_1 < (l0.length : Int) := of_decide_eq_true y2_
      obtain ⟨ad461, A461_4, c461_4, e461, hx461_0, hx461_1, hx461_2, hx461_3, hx461_4, hl461_4, hi461_4⟩ := at_T35 HR0.out x5_1 p461 q461
      cases e461
      have HR461_4 := Aside0.mk hi461_4
      have HC461_4 := Aside0.mk hl461_4
      clear hi461_4 hl461_4
      replace p461 := eq_true p461
      replace q461 := eq_true q461
      have p462 : 0 ≤ (a1 : Int) := of_decide_eq_true y2_
      have q462 : a1 < (l0.length : Int) := of_decide_eq_true y2_
      obtain ⟨ad462, A462_4, c462_4, e462, hx462_0, hx462_1, hx462_2, hx462_3, hx462_4, hl462_4, hi462_4⟩ := at_T35 HR0.out a1 p462 q462
      obtain rfl : ad461 = ad462 := (by injection e462)
      try (have e_ := Option.some.inj (hx461_4.symm.trans hx462_4); injection e_ with ea_ eb_ ec_; rw [ea_, ec_] at hx461_4; clear ea_ eb_ ec_)
      have HR462_4 := Aside0.mk hi462_4
      have HC462_4 := Aside0.mk hl462_4
      clear hi462_4 hl462_4
      replace p462 := eq_true p462
      replace q462 := eq_true q462
      go_wp2
      repeat (go_quiet (fail); try go_wp2)
      go_roundg k1
      case measure => have := HK1.out; omega
      case rel => exact ⟨(wrap64 (x5_1 + 1)), y4_, H', ⟨by have := HK1.out; omega⟩, y3_⟩
     ·rw [if_neg c9] at H
      have c9b0 : decide (((rd_T35 l0 a1).f0) < ((rd_T35 l0 x5_1).f0)) = false := decide_eq_false c9
      clear c9
      obtain rfl := Option.some.inj H
      have p461 : 0 ≤ (x5_1 : Int) := of_decide_eq_true y2_
      have q461 : x5_1 < (l0.length : Int) := of_decide_eq_true y2_
      obtain ⟨ad461, A461_4, c461_4, e461, hx461_0, hx461_1, hx461_2, hx461_3, hx461_4, hl461_4, hi461_4⟩ := at_T35 HR0.out x5_1 p461 q461
      cases e461
      have HR461_4 := Aside0.mk hi461_4
      have HC461_4 := Aside0.mk hl461_4
      clear hi461_4 hl461_4
      replace p461 := eq_true p461
      replace q461 := eq_true q461
      have p462 : 0 ≤ (a1 : Int) := of_decide_eq_true y2_
      have q462 : a1 < (l0.length : Int) := of_decide_eq_true y2_
      obtain ⟨ad462, A462_4, c462_4, e462, hx462_0, hx462_1, hx462_2, hx462_3, hx462_4, hl462_4, hi462_4⟩ := at_T35 HR0.out a1 p462 q462
      obtain rfl : ad461 = ad462 := (by injection e462)
      try (have e_ := Option.some.inj (hx461_4.symm.trans hx462_4); injection e_ with ea_ eb_ ec_; rw [ea_, ec_] at hx461_4; clear ea_ eb_ ec_)
      have HR462_4 := Aside0.mk hi462_4
      have HC462_4 := Aside0.mk hl462_4
      clear hi462_4 hl462_4
      replace p462 := eq_true p462
      replace q462 := eq_true q462
      go_wp2
      repeat (go_quiet (fail); try go_wp2)
      go_ret
      exact ⟨y4_, y3_⟩
    ·rw [if_neg c5] at H
     have c5b0 : decide (x5_1 < (l0.length : Int)) = false := decide_eq_false c5
     clear c5
     obtain rfl := Option.some.inj H
     go_wp2
     repeat (go_quiet (fail); try go_wp2)
     go_ret
     exact ⟨y4_, y3_⟩
 ·replace c4 := Bool.eq_false_iff.mpr c4
  subst c4
  rw [if_neg (show ¬ (false = true) by decide)] at H
  obtain rfl := Option.some.inj H
  go_enter Tryd.func80, Tryd.ntmps80
  go_wp2_with (first | (go_at_call 59; (with_reducible refine (rows_is.calls _ _ l0 a1 false _ ?side1 ?side2 A3.out).mono ?_); (case side1 => repeat (first | exact HR0.out | (with_reducible refine Kd.C_alloc ?_ _) | (with_reducible refine Kd.C_drewN ?_ _) | (with_reducible refine Kd.C_drew ?_))); (case side2 => exact HC0.out); rintro e w' ⟨rfl, ⟨nd, rfl⟩⟩; (try first | exact ⟨rfl, _, World.drewN_drewN _ _ _⟩ | exact ⟨rfl, _, Eq.trans (World.drewN_drewN _ _ _) (congrArg (World.drewN _) (Nat.add_assoc _ _ _))⟩)))
  repeat (go_quiet (first | (go_at_call 59; (with_reducible refine (rows_is.calls _ _ l0 a1 false _ ?side1 ?side2 A3.out).mono ?_); (case side1 => repeat (first | exact HR0.out | (with_reducible refine Kd.C_alloc ?_ _) | (with_reducible refine Kd.C_drewN ?_ _) | (with_reducible refine Kd.C_drew ?_))); (case side2 => exact HC0.out); rintro e w' ⟨rfl, ⟨nd, rfl⟩⟩; (try first | exact ⟨rfl, _, World.drewN_drewN _ _ _⟩ | exact ⟨rfl, _, Eq.trans (World.drewN_drewN _ _ _) (congrArg (World.drewN _) (Nat.add_assoc _ _ _))⟩))); try go_wp2_with (first | (go_at_call 59; (with_reducible refine (rows_is.calls _ _ l0 a1 false _ ?side1 ?side2 A3.out).mono ?_); (case side1 => repeat (first | exact HR0.out | (with_reducible refine Kd.C_alloc ?_ _) | (with_reducible refine Kd.C_drewN ?_ _) | (with_reducible refine Kd.C_drew ?_))); (case side2 => exact HC0.out); rintro e w' ⟨rfl, ⟨nd, rfl⟩⟩; (try first | exact ⟨rfl, _, World.drewN_drewN _ _ _⟩ | exact ⟨rfl, _, Eq.trans (World.drewN_drewN _ _ _) (congrArg (World.drewN _) (Nat.add_assoc _ _ _))⟩))))
  go_ret
  exact ⟨y4_, y3_⟩
end Go.Proofs.YtpnhjipaeggcpaaDoor.X
end
section
namespace Go.Proofs.YtpnhjipaeggcpaaDoor.X
open Go.RowKit Go.Shelf Go.Proofs.YtpnhjipaeggcpaaDoorW.PrintWords Go.Proofs.YtpnhjipaeggcpaaDoorW.PrintLast Go.Proofs.YtpnhjipaeggcpaaDoorW.PrintMore
theorem wide_fn (f : FuncId) : Fence.wide.fn f = True := rfl
attribute [local go_sem] Oper.semAt_some wide_fn
def runDeep (d : Int) : List S35 → Nat
  | [] => 0
  | x :: r => if x.f0 > d then runDeep d r + 1 else 0
def endOf (l : List S35) (i : Nat) : Nat := i + 1 + runDeep ((rd_T35 l (i : Int)).f0) (l.drop (i + 1))
def rEnd (l : List S35) (i : Int) : Int := if 0 ≤ i ∧ i < (l.length : Int) then (endOf l i.toNat : Int) else 0
theorem runDeep_le (d : Int) : ∀ l, runDeep d l ≤ l.length
  | [] => Nat.le_refl _
  | x :: r => by
    have := runDeep_le d r
    unfold runDeep
    split <;> simp <;> omega
theorem endOf_le (l : List S35) (i : Nat) (hi : i < l.length) : i < endOf l i ∧ endOf l i ≤ l.length := by
  have := runDeep_le ((rd_T35 l (i : Int)).f0) (l.drop (i + 1))
  rw [List.length_drop] at this
  unfold endOf
  omega
theorem rEnd_loop (l : List S35) (i : Nat) (hi : i < l.length) (hmax : l.length ≤ 9223372036854775807) : ∀ (d k : Nat), k + d = l.length →
    rows_End.l0 (d + 1) l (i : Int) (k : Int) = some ((k + runDeep ((rd_T35 l (i : Int)).f0) (l.drop k) : Nat) : Int)
  | 0, k, hk => by
    simp only [rows_End.l0]
    rw [if_neg (by omega), List.drop_eq_nil_of_le (by omega)]
    rfl
  | d + 1, k, hk => by
    have hlt : k < l.length := by omega
    have ih := rEnd_loop l i hi hmax d (k + 1) (by omega)
    rw [List.drop_eq_getElem_cons hlt]
    have hrd : rd_T35 l (k : Int) = l[k] := by simp [rd_T35, hlt]
    rw [rows_End.l0, if_pos (by omega), if_pos (by omega), if_pos (by omega), if_pos (by omega), hrd, runDeep]
    split
    · rw [show wrap64 ((k : Int) + 1) = ((k + 1 : Nat) : Int) by unfold wrap64; omega, ih]
      congr 2
      omega
    · simp
theorem rEnd_is (l : List S35) (i : Int) (hmax : l.length ≤ 9223372036854775807) : rows_End.f (l.length + 1) l i = some (rEnd l i) := by
  unfold rows_End.f rows_is.f rEnd
  by_cases h : 0 ≤ i ∧ i < (l.length : Int)
  · obtain ⟨k, rfl⟩ := Int.eq_ofNat_of_zero_le h.1
    have hk : k < l.length := by omega
    rw [if_pos (by omega), if_pos h]
    simp only [Option.bind_some]
    rw [if_pos (by simpa using h.2), show wrap64 ((k : Int) + 1) = ((k + 1 : Nat) : Int) by unfold wrap64; omega]
    have := rEnd_loop l k hk hmax (l.length - (k + 1)) (k + 1) (by omega)
    rw [leO_le (f := fun q => rows_End.l0 q l (k : Int) ((k + 1 : Nat) : Int)) (fun q => rows_End.mono_l q _ _ _) this (by omega)]
    rfl
  · rw [if_neg h]
    by_cases h0 : i ≥ 0
    · rw [if_pos h0]
      simp only [Option.bind_some]
      rw [if_neg (by simp; omega)]
    · rw [if_neg h0]; rfl
def kidsGo (l : List S35) (e1 : Nat) : Nat → Nat → List Int
  | 0, _ => []
  | g + 1, k => if k < e1 then (k : Int) :: kidsGo l e1 g (endOf l k) else []
def kidsOf (l : List S35) (i : Int) : List Int := if i = -1 then kidsGo l l.length l.length 0 else kidsGo l (rEnd l i).toNat l.length (i.toNat + 1)
def rows_Kids.f (l0 : List S35) (a1 : Int) : Option (List Int) := if a1 = -1 ∨ (0 ≤ a1 ∧ a1 < (l0.length : Int)) then (if l0.length < 17592186044416 then some (kidsOf l0 a1) else none) else some []
theorem kidsGo_length (l : List S35) (e1 : Nat) (hto : e1 ≤ l.length) : ∀ g k, (kidsGo l e1 g k).length ≤ e1 - k
  | 0, k => Nat.zero_le _
  | g + 1, k => by
    unfold kidsGo
    split
    · have := kidsGo_length l e1 hto g (endOf l k)
      have := endOf_le l k (by omega)
      simp; omega
    · simp
def KidsKp (b b1 b2 : Nat) (A B : World) : Prop := Below b A B ∧ B.heap[b1]? = A.heap[b1]? ∧ B.heap[b2]? = A.heap[b2]?
theorem kidsKp_t {b b1 b2 : Nat} {A B C : World} (h : KidsKp b b1 b2 A B) (k : KidsKp b b1 b2 B C) : KidsKp b b1 b2 A C := ⟨h.1.trans k.1, k.2.1.trans h.2.1, k.2.2.trans h.2.2⟩
theorem kidsKp_refl (b b1 b2 : Nat) (A : World) : KidsKp b b1 b2 A A := ⟨Below.refl _ _, rfl, rfl⟩
theorem kidsKp_drewN {b b1 b2 : Nat} {A B : World} (h : KidsKp b b1 b2 A B) (n : Nat) : KidsKp b b1 b2 A (B.drewN n) := ⟨pw_below_drewN h.1 n, h.2.1, h.2.2⟩
theorem kids_block {W W' : World} {b : Nat} {t : TypeId} {v : Value} (h : W.heap[b]? = some (.cells #[v] t (0, 0))) (e : W'.heap[b]? = W.heap[b]?) : W'.cell? ⟨b, 0, none⟩ = some v := by
  have := e.trans h
  simp [World.cell?, this]
set_option maxRecDepth 100000 in
set_option maxHeartbeats 4000000 in
theorem kids1_in (l nb b1 b2 cap : Nat) (A : Option Addr) (rs : List S35) (i : Int) (hi : i = -1 ∨ (0 ≤ i ∧ i < (rs.length : Int))) (w0 : World) (hC : Kd.C k35 w0 A rs.length rs) (hcap : rs.length ≤ cap) (hnb : w0.heap.size ≤ nb) (J Jx : List Int → World → Prop)
    (hY : ∀ pre x W, J pre W → pre.length < (kidsOf rs i).length → YieldAt Fence.wide 1 Tryd.prog l #[.int .i64 x] W fun e W' =>
      (e = .returned (.bool true) ∧ J (pre ++ [x]) W' ∧ KidsKp nb b1 b2 W W') ∨ (e = .returned (.bool false) ∧ Jx (pre ++ [x]) W'))
    (W : World) (hb : Below w0.heap.size w0 W) (hB1 : W.heap[b1]? = some (.cells #[.slice A rs.length cap] 22 (0, 0))) (hB2 : W.heap[b2]? = some (.cells #[.int .i64 i] 3 (0, 0))) (hJ : ∀ pre n W, J pre W → J pre (W.drewN n)) (h0 : J [] W) :
    CallsIn Fence.wide 2 Tryd.prog 79 #[.func (.yield l) #[] #[], .pointer (some ⟨b1, 0, none⟩), .pointer (some ⟨b2, 0, none⟩)] W fun e W' => (∃ v, e = .returned v) ∧
      ((∃ ys, ys = kidsOf rs i ∧ J ys W') ∨ (∃ pre, True ∧ Jx pre W')) := by
  have hmax : rs.length ≤ 9223372036854775807 := hC.2.1
  have HC := Aside0.mk hC
  have HW := Aside0.mk hb
  have H1 := Aside0.mk hB1
  have H2 := Aside0.mk hB2
  have HE : ∀ (k : Nat) (V : World), Below w0.heap.size w0 V → Calls Tryd.prog 80 #[.slice A rs.length cap, .int .i64 k] V fun e w' => e = .returned (.int .i64 (rEnd rs k)) ∧ ∃ m, w' = V.drewN m := fun k V hV =>
    (rows_End.calls _ A cap rs k _ V (Kd.C_below HC.out hV) hcap (rEnd_is rs k hmax)).mono fun _ _ h => ⟨h.1, h.2.out⟩
  have HEA := Aside0.mk HE
  clear hC hb HE
  have c1_ := kids_block hB1 rfl
  have c2_ := kids_block hB2 rfl
  clear hB1 hB2
  refine callsIn_of_wp Tryd.func79 rfl trivial ?_ rfl
  simp only [Tryd.ntmps79, List.size_toArray, List.length_cons, List.length_nil, Nat.reduceAdd, Nat.reduceSub, Array.replicate_succ, Array.replicate_zero, List.push_toArray, List.append_toArray, List.nil_append, List.cons_append]
  obtain ⟨i0, hi0⟩ : ∃ i0, i0 = i := ⟨_, rfl⟩
  rw [← hi0] at hY
  rw [← hi0]
  by_cases h1 : i = -1
  · subst h1
    have HI := Aside0.mk (show kidsGo rs rs.length rs.length 0 = kidsOf rs i0 by rw [hi0]; rfl)
    clear hi0
    gi_wp2
    gi_quiet (fail)
    gi_wp2
    gi_loopw [6] (fun x wr => ∃ (k g : Nat) (pre : List Int), x = .int .i64 k ∧ rs.length ≤ k + g ∧ Aside0 (pre ++ kidsGo rs rs.length g k = kidsOf rs i0) ∧ Aside0 (J pre wr) ∧ Aside0 (KidsKp nb b1 b2 W wr))
      (fun x _ => rs.length - (intOf x).toNat)
    case atStart => exact ⟨0, rs.length, [], by simp, by omega, ⟨by rw [List.nil_append, HI.out]⟩, ⟨by first | exact hJ _ _ _ h0 | exact hJ _ _ _ (hJ _ _ _ h0)⟩, ⟨by first | exact kidsKp_drewN (kidsKp_refl _ _ _ _) _ | exact kidsKp_drewN (kidsKp_drewN (kidsKp_refl _ _ _ _) _) _⟩⟩
    case round =>
      obtain ⟨k, g, pre, rfl, hg, HP, HJ, HK⟩ := hrel
      have c1 := kids_block H1.out HK.out.2.1
      by_cases hlt : k < rs.length
      · have hlz : (k : Int) < ((rs.length : Nat) : Int) := by omega
        obtain ⟨g', rfl⟩ : ∃ g', g = g' + 1 := ⟨g - 1, by omega⟩
        have hp := HP.out
        rw [kidsGo, if_pos hlt] at hp
        have HP2 := Aside0.mk hp
        have hpl : pre.length < (kidsOf rs i0).length := by rw [← hp]; simp
        obtain ⟨fn, tmps, assign, body, hy, hR⟩ := hY pre (k : Int) wr HJ.out hpl
        (try dsimp only at hy)
        have hend := fun V hV => HEA.out k V hV
        have hen : rEnd rs (k : Int) = ((endOf rs k : Nat) : Int) := by unfold rEnd; exact if_pos (by omega)
        rw [hen] at hend
        have hel := endOf_le rs k (by omega)
        clear hp hen hpl
        gi_wp2
        refine hR.mono ?_
        rintro e W3 (⟨rfl, hJ3, hk3⟩ | ⟨rfl, hJx3⟩)
        · have HJ3 := Aside0.mk hJ3
          have HK3 := Aside0.mk (kidsKp_t HK.out hk3)
          clear hJ3 hk3 c1
          have c3 := kids_block H1.out HK3.out.2.1
          have hc3 := hend W3 (HW.out.trans (HK3.out.1.mono hnb))
          clear hend
          gi_wp2_with (gi_at_call 80; refine (callsIn_wide.2 hc3).mono ?_; clear hc3; rintro e w' ⟨rfl, m, rfl⟩)
          go_roundw
          case rel => exact ⟨endOf rs k, g', pre ++ [(k : Int)], rfl, by omega, ⟨by rw [← HP2.out]; simp⟩, ⟨hJ _ _ _ HJ3.out⟩, ⟨kidsKp_drewN HK3.out _⟩⟩
          case measure => simp [intOf]; omega
        · have HJ3 := Aside0.mk hJx3
          clear hJx3 hend
          gi_wp2
          refine bodyPost_ret (results_none rfl _ _ _) rfl ?_
          exact ⟨⟨_, rfl⟩, .inr ⟨_, trivial, HJ3.out⟩⟩
      · have hlz : ¬ (k : Int) < ((rs.length : Nat) : Int) := by omega
        have hp := HP.out
        have hnil : kidsGo rs rs.length g k = [] := by cases g <;> simp [kidsGo, hlt]
        rw [hnil, List.append_nil] at hp
        have HP2 := Aside0.mk hp
        clear hp hnil
        gi_wp2
        go_end0
        exact ⟨⟨_, rfl⟩, .inl (HP2.out ▸ HJ.out)⟩
  · obtain ⟨m, rfl⟩ : ∃ m : Nat, i = m := ⟨i.toNat, by omega⟩
    have hm : m < rs.length := by omega
    have hen : rEnd rs (m : Int) = ((endOf rs m : Nat) : Int) := by unfold rEnd; exact if_pos (by omega)
    have hle := (endOf_le rs m hm).2
    have HI := Aside0.mk (show kidsGo rs (endOf rs m) rs.length (m + 1) = kidsOf rs i0 by rw [hi0, kidsOf, if_neg h1, hen]; rfl)
    have hneg : ((m : Int) != -1) = true := bne_iff_ne.mpr (by omega)
    have hE0 := fun V hV => HEA.out m V hV
    rw [hen] at hE0
    clear hi0 hen
    gi_wp2
    gi_quiet (fail)
    gi_wp2
    gi_quiet (first | (gi_at_call 80 ; refine (callsIn_wide.2 (hE0 _ (pw_below_drewN HW.out _))).mono fun _ _ h => ⟨h.1, ?_⟩; obtain ⟨q, hq⟩ := h.2; exact ⟨_, by rw [hq, World.drewN_drewN, Nat.add_assoc]⟩))
    gi_wp2
    clear hE0 hneg
    gi_loopw [6] (fun x wr => ∃ (k g : Nat) (pre : List Int), x = .int .i64 k ∧ endOf rs m ≤ k + g ∧ Aside0 (pre ++ kidsGo rs (endOf rs m) g k = kidsOf rs i0) ∧ Aside0 (J pre wr) ∧ Aside0 (KidsKp nb b1 b2 W wr))
      (fun x _ => endOf rs m - (intOf x).toNat)
    case atStart => exact ⟨m + 1, rs.length, [], by simp, by omega, ⟨by rw [List.nil_append, HI.out]⟩, ⟨by first | exact hJ _ _ _ h0 | exact hJ _ _ _ (hJ _ _ _ h0)⟩, ⟨by first | exact kidsKp_drewN (kidsKp_refl _ _ _ _) _ | exact kidsKp_drewN (kidsKp_drewN (kidsKp_refl _ _ _ _) _) _⟩⟩
    case round =>
      obtain ⟨k, g, pre, rfl, hg, HP, HJ, HK⟩ := hrel
      have c1 := kids_block H1.out HK.out.2.1
      by_cases hlt : k < endOf rs m
      · have hlz : (k : Int) < ((endOf rs m : Nat) : Int) := by omega
        obtain ⟨g', rfl⟩ : ∃ g', g = g' + 1 := ⟨g - 1, by omega⟩
        have hp := HP.out
        rw [kidsGo, if_pos hlt] at hp
        have HP2 := Aside0.mk hp
        have hpl : pre.length < (kidsOf rs i0).length := by rw [← hp]; simp
        obtain ⟨fn, tmps, assign, body, hy, hR⟩ := hY pre (k : Int) wr HJ.out hpl
        (try dsimp only at hy)
        have hend := fun V hV => HEA.out k V hV
        have hen : rEnd rs (k : Int) = ((endOf rs k : Nat) : Int) := by unfold rEnd; exact if_pos (by omega)
        rw [hen] at hend
        have hel := endOf_le rs k (by omega)
        clear hp hen hpl
        gi_wp2
        refine hR.mono ?_
        rintro e W3 (⟨rfl, hJ3, hk3⟩ | ⟨rfl, hJx3⟩)
        · have HJ3 := Aside0.mk hJ3
          have HK3 := Aside0.mk (kidsKp_t HK.out hk3)
          clear hJ3 hk3 c1
          have c3 := kids_block H1.out HK3.out.2.1
          have hc3 := hend W3 (HW.out.trans (HK3.out.1.mono hnb))
          clear hend
          gi_wp2_with (gi_at_call 80; refine (callsIn_wide.2 hc3).mono ?_; clear hc3; rintro e w' ⟨rfl, m, rfl⟩)
          go_roundw
          case rel => exact ⟨endOf rs k, g', pre ++ [(k : Int)], rfl, by omega, ⟨by rw [← HP2.out]; simp⟩, ⟨hJ _ _ _ HJ3.out⟩, ⟨kidsKp_drewN HK3.out _⟩⟩
          case measure => simp [intOf]; omega
        · have HJ3 := Aside0.mk hJx3
          clear hJx3 hend
          gi_wp2
          refine bodyPost_ret (results_none rfl _ _ _) rfl ?_
          exact ⟨⟨_, rfl⟩, .inr ⟨_, trivial, HJ3.out⟩⟩
      · have hlz : ¬ (k : Int) < ((endOf rs m : Nat) : Int) := by omega
        have hp := HP.out
        have hnil : kidsGo rs (endOf rs m) g k = [] := by cases g <;> simp [kidsGo, hlt]
        rw [hnil, List.append_nil] at hp
        have HP2 := Aside0.mk hp
        clear hp hnil
        gi_wp2
        go_end0
        exact ⟨⟨_, rfl⟩, .inl (HP2.out ▸ HJ.out)⟩
set_option maxHeartbeats 1000000 in
theorem kids_in (a : Option Addr) (len cap : Nat) (i : Int) (w : World) :
    CallsIn Fence.wide 2 Tryd.prog 60 #[.slice a len cap, .int .i64 i] w fun e w' => e = .returned (.func (.func 79) #[] #[.pointer (some ⟨w.heap.size, 0, none⟩), .pointer (some ⟨w.heap.size + 1, 0, none⟩)]) ∧ w' = (w.alloc (.cells #[.slice a len cap] 22)).alloc (.cells #[.int .i64 i] 3) := by
  refine callsIn_of_wp Tryd.func60 rfl trivial ?_ rfl
  simp only [Tryd.ntmps60, List.size_toArray, List.length_cons, List.length_nil, Nat.reduceAdd, Nat.reduceSub, Array.replicate_succ, Array.replicate_zero, List.push_toArray, List.append_toArray, List.nil_append, List.cons_append]
  gi_wp2
  go_ret
  exact ⟨rfl, rfl⟩
def KidsI (b : Nat) (w W0 : World) (pre : List Int) (W : World) : Prop :=
  (∃ v, W.heap[b]? = some (.cells #[v] 29 (0, 0)) ∧ W.ownsRow (b + 3) 3 1 v pre.length (pre.map (.int .i64))) ∧ KidsKp b (b + 1) (b + 2) W0 W
theorem kidsI_own {b : Nat} {w W0 : World} (hs : W0.heap.size = b + 3) : OwnFrom (b + 3) (KidsI b w W0) := fun s A B row h hg hr => by
  obtain ⟨⟨v, h1, h2⟩, h3⟩ := h
  have hne : ∀ k o, A.heap[k]? = some o → o.isCells = true → some k ≠ row := fun k o ho hc e => by
    obtain ⟨_, o', ho', hc'⟩ := hr k e.symm
    rw [ho] at ho'; cases ho'; rw [hc] at hc'; cases hc'
  have hblk : ∀ k, k < b + 3 → k < A.heap.size → B.heap[k]? = A.heap[k]? := fun k hk hk' => hg.block k hk' (fun e => by have := (hr k e.symm).1; omega)
  have hA := h3.1.size
  refine ⟨⟨v, (hblk b (by omega) (by omega)).trans h1, h2.kept hg ?_⟩, h3.1.grown hg (by omega) (fun k e => by have := (hr k e).1; omega), (hblk _ (by omega) (by omega)).trans h3.2.1, (hblk _ (by omega) (by omega)).trans h3.2.2⟩
  rcases h2.2 with ⟨rfl, _⟩ | ⟨g, cp, cur, rfl, _, hgc, _⟩
  · exact .inl rfl
  · exact .inr (hne g _ hgc rfl)
theorem kids_lower {w : World} {b size n : Nat} {e : TypeId} {v : Value} {xs : List Value} (h : w.ownsRow (b + 3) e size v n xs) : w.ownsRow b e size v n xs :=
  ⟨h.1, h.2.elim .inl fun ⟨g, cap, cur, h1, h2, h3⟩ => .inr ⟨g, cap, cur, h1, by omega, h3⟩⟩
theorem kids_int : (Tryd.prog.info? 3).map (fun i => (i.zero, i.size, i.bytes)) = some (some (.int .i64 0), 1, 8) := by kernel_rfl
theorem kids_more {b : Nat} {w W0 W w2 : World} {pre : List Int} {x : Int} {v v' : Value} {o : Obj} (hs : W0.heap.size = b + 3) (h1 : W.heap[b]? = some (.cells #[v] 29 (0, 0))) (h2 : W.ownsRow (b + 3) 3 1 v pre.length (pre.map (.int .i64))) (h3 : KidsKp b (b + 1) (b + 2) W0 W)
    (h4 : w2.ownsRow (b + 3) 3 1 v' (pre.length + 1) (pre.map (.int .i64) ++ [.int .i64 x])) (hg : (W.alloc o).grownBy w2 v.ownBlock) :
    KeepsOthers W (w2.setCell ⟨b, 0, none⟩ v') ∧ KidsKp b (b + 1) (b + 2) W (w2.setCell ⟨b, 0, none⟩ v') ∧ KidsI b w W0 (pre ++ [x]) (w2.setCell ⟨b, 0, none⟩ v') ∧ Boxed w2 b 29 v := by
  have hA := h3.1.size
  have hvb : ∀ k, v.ownBlock = some k → b + 3 ≤ k ∧ ∃ cur, W.heap[k]? = some (.cells cur 3 (0, 0)) := fun k hk => by
    rcases h2.2 with ⟨rfl, _⟩ | ⟨g, cp, cur, rfl, hb, hgc, _⟩
    · cases hk
    · cases hk; exact ⟨hb, cur, hgc⟩
  have hblk : ∀ k, k < b + 3 → w2.heap[k]? = W.heap[k]? := fun k hk => (hg.block k (by simp; omega) (fun e => by have := (hvb k e.symm).1; omega)).trans (Below.heap_alloc W o k (by omega))
  have hset : ∀ k, k ≠ b → (w2.setCell ⟨b, 0, none⟩ v').heap[k]? = w2.heap[k]? := fun k hk => Below.heap_setCell w2 ⟨b, 0, none⟩ v' k hk
  have hkp : KidsKp b (b + 1) (b + 2) W (w2.setCell ⟨b, 0, none⟩ v') :=
    ⟨(((Below.refl b W).alloc (by omega) o).grown hg (by simp; omega) (fun k e => by have := (hvb k e).1; omega)).setCell (p := ⟨b, 0, none⟩) (Nat.le_refl _) _, (hset _ (by omega)).trans (hblk _ (by omega)), (hset _ (by omega)).trans (hblk _ (by omega))⟩
  refine ⟨((KeepsOthers.alloc W o).trans (KeepsOthers.of_grownBy hg (fun j o' hj ho => ?_))).trans (KeepsOthers.setCell _ _ _), hkp, ⟨⟨v', ?_, ?_⟩, kidsKp_t h3 hkp⟩, (hblk b (by omega)).trans h1⟩
  · obtain ⟨_, cur, hc⟩ := hvb j hj
    rw [Below.heap_alloc W o j (Array.getElem?_eq_some_iff.1 hc).1, hc] at ho
    cases ho; rfl
  · exact Boxed.set v' (show Boxed w2 b 29 v from (hblk b (by omega)).trans h1)
  · rw [List.length_append, List.map_append]
    refine ⟨h4.1, ?_⟩
    rcases h4.2 with h | ⟨g, cp, cur, e, hb, hgc, hr⟩
    · exact .inl h
    · exact .inr ⟨g, cp, cur, e, hb, (hset g (by omega)).trans hgc, hr⟩
theorem kidsOf_length (rs : List S35) (i : Int) (hi : i = -1 ∨ (0 ≤ i ∧ i < (rs.length : Int))) : (kidsOf rs i).length ≤ rs.length := by
  unfold kidsOf
  split
  · exact Nat.le_trans (kidsGo_length rs rs.length (Nat.le_refl _) _ _) (by omega)
  · obtain ⟨m, rfl⟩ : ∃ m : Nat, i = m := ⟨i.toNat, by omega⟩
    have hm : m < rs.length := by omega
    have hen : rEnd rs (m : Int) = ((endOf rs m : Nat) : Int) := by unfold rEnd; exact if_pos (by omega)
    have hle := (endOf_le rs m hm).2
    rw [hen]
    exact Nat.le_trans (kidsGo_length rs _ (by simpa using hle) _ _) (by simp; omega)
set_option maxRecDepth 100000 in
set_option maxHeartbeats 4000000 in
theorem kidsAll_in (A : Option Addr) (cap : Nat) (rs : List S35) (i : Int) (hi : i = -1 ∨ (0 ≤ i ∧ i < (rs.length : Int))) (w : World) (hC : Kd.C k35 w A rs.length rs) (hcap : rs.length ≤ cap) (hlen : rs.length < 17592186044416) :
    CallsIn Fence.wide 3 Tryd.prog 35 #[.slice A rs.length cap, .int .i64 i] w fun e W' => ∃ v, e = .returned v ∧ Kd.R (Kd.int .i64) 3 W' w.heap.size (fun _ => True) v (kidsOf rs i) ∧ Below w.heap.size w W' := by
  have HC := Aside0.mk hC
  have HIs : ∀ V, Below w.heap.size w V → i ≠ -1 → Calls Tryd.prog 59 #[.slice A rs.length cap, .int .i64 i] V fun e w' => e = .returned (.bool true) ∧ ∃ m, w' = V.drewN m := fun V hV hne =>
    (rows_is.calls A cap rs i true V (Kd.C_below HC.out hV) hcap (by unfold rows_is.f; rw [if_pos (by omega), decide_eq_true (by omega)])).mono fun _ _ h => ⟨h.1, h.2.out⟩
  clear hC
  refine callsIn_of_wp_marks Tryd.func35 rfl trivial ?_ rfl
  simp only [Tryd.ntmps35, List.size_toArray, List.length_cons, List.length_nil, Nat.reduceAdd, Nat.reduceSub, Array.replicate_succ, Array.replicate_zero, List.push_toArray, List.append_toArray, List.nil_append, List.cons_append]
  by_cases h1 : i = -1
  · subst h1
    clear HIs
    gi_wp2_with (gi_at_call 60; refine (kids_in _ _ _ _ _).mono ?_; rintro e w' ⟨rfl, rfl⟩)
    have hb0 := ((Boxed.new w 29 (.slice none 0 0)).alloc (.cells #[.slice A rs.length cap] 22)).alloc (.cells #[.int .i64 (-1)] 3)
    have hb1 := (Boxed.new (w.alloc (.cells #[.slice none 0 0] 29)) 22 (.slice A rs.length cap)).alloc (.cells #[.int .i64 (-1)] 3)
    have hb2 := Boxed.new ((w.alloc (.cells #[.slice none 0 0] 29)).alloc (.cells #[.slice A rs.length cap] 22)) 3 (.int .i64 (-1))
    simp only [World.size_alloc] at hb1 hb2
    obtain ⟨W0, hW0⟩ : ∃ W0, (((w.alloc (.cells #[.slice none 0 0] 29)).alloc (.cells #[.slice A rs.length cap] 22)).alloc (.cells #[.int .i64 (-1)] 3)) = W0 := ⟨_, rfl⟩
    rw [hW0] at hb0 hb1 hb2
    have hs : W0.heap.size = w.heap.size + 3 := by rw [← hW0, World.size_alloc, World.size_alloc, World.size_alloc] <;> rfl
    have hB0 : Below w.heap.size w W0 := by rw [← hW0]; exact (((Below.refl _ w).alloc (Nat.le_refl _) _).alloc (by rw [World.size_alloc]; exact Nat.le_succ _) _).alloc (by rw [World.size_alloc, World.size_alloc]; exact Nat.le_add_right _ 2) _
    rw [hW0]
    clear hW0
    have HB0 := Aside0.mk hB0
    have HS := Aside0.mk hs
    have h0 : KidsI w.heap.size w W0 [] W0 := ⟨⟨.slice none 0 0, hb0, World.ownsRow_nil _ _ _ _⟩, kidsKp_refl _ _ _ _⟩
    refine wpIn_rangeFunc_ownF rfl (by omega) (gf := 79) (lb := #[.pointer (some ⟨w.heap.size + 1, 0, none⟩), .pointer (some ⟨w.heap.size + 1 + 1, 0, none⟩)]) rfl trivial (enters_of Tryd.func79 (by kernel_rfl) rfl)
      (encs := fun x : Int => #[Value.int .i64 x]) (Kp := KidsKp w.heap.size (w.heap.size + 1) (w.heap.size + 2)) (S := fun ys => ys = kidsOf rs (-1)) (Sp := fun _ => True) (N := (kidsOf rs (-1)).length) (w0 := W0)
      (fun l J Jx W hW hJ _ hY hj0 => kids1_in l w.heap.size (w.heap.size + 1) (w.heap.size + 2) cap A rs (-1) (.inl rfl) w HC.out hcap (Nat.le_refl _) J Jx hY W (HB0.out.trans (hW.mono (by omega))) ((hW.block _ (by omega)).trans hb1) ((hW.block _ (by omega)).trans hb2) (fun pre n W h => hJ _ _ _ none h ⟨rfl, rfl, rfl, Nat.le_refl _, fun _ _ _ => rfl⟩ (fun _ e => by cases e)) hj0)
      (fun h k => kidsKp_t h k) (fun W l o o' hl hlo _ _ => ⟨belowK_b (w := W0) (by omega) W l o o' hl hlo (by assumption) (by assumption), World.putObj_heap_other (by omega), World.putObj_heap_other (by omega)⟩) (Below.refl _ _) (fun _ => rfl)
      (KidsI w.heap.size w W0) (fun _ _ _ => False) (by rw [hs]; exact kidsI_own hs) (fun _ => fun _ _ _ _ h _ _ => h) h0
      (fun x => { tmps := #[.slice A rs.length cap, .int .i64 (-1), undef, undef, .slice none 0 0, .pointer (some ⟨w.heap.size, 0, none⟩), .int .i64 x, .int .i64 (-1), .bool false, .bool false, undef, undef, undef, undef, .bool false, .slice A rs.length cap, .int .i64 (-1), .func (.func 79) #[] #[.pointer (some ⟨w.heap.size + 1, 0, none⟩), .pointer (some ⟨w.heap.size + 1 + 1, 0, none⟩)], .int .i64 x, undef, undef, undef, undef, undef], defers := [] }) ?assign ?body ?done ?stop
    case assign =>
      intro l x W K hK
      gi_wp2
      exact hK
    case stop =>
      rintro D c pre W hD _ hx
      exact hx.elim
    case body =>
      rintro l pre x W ⟨⟨v, h1, h2⟩, h3⟩ hpl
      have H1 := Aside0.mk h1
      have H2 := Aside0.mk h2
      have H3 := Aside0.mk h3
      have c1_ : W.cell? ⟨w.heap.size, 0, none⟩ = some v := kids_block h1 rfl
      have f1_ : W.frozen? ⟨w.heap.size, 0, none⟩ = false := Boxed.frozen h1
      have hkl := kidsOf_length rs (-1) (.inl rfl)
      obtain ⟨i0, hi0, hz0, hz1, hz2⟩ := info_parts kids_int
      clear h1 h2 h3
      have hex : W.heap.size + 1 = (W.alloc (.cells #[.int .i64 x] 3)).heap.size := by simp
      have hsz : w.heap.size + 3 ≤ W.heap.size := by have := H3.out.1.size; rw [HS.out] at this; exact this
      gi_wp2_with (gi_at_builtin; refine wpListIn_append_own _ rfl _ _ 29 rfl (w.heap.size + 3) 3 i0 (.int .i64 0) 1 8 Tryd.underlying29 hi0 hz0 hz1 hz2 rfl (by decide) _ _ _ rfl (H2.out.alloc _) ⟨W.heap.size, 0, none⟩ 1 1 [.int .i64 x] rfl rfl ?c1 ?c2 ?c3 ?c4 ?c5 ?_)
      case c1 =>
        intro j u hj
        match j, hj with
        | 0, hj => simp at hj; subst hj; simp [Addr.add]
      case c2 => intro u hu; simp at hu; subst hu; rfl
      case c3 => unfold maxLen; omega
      case c4 => omega
      case c5 => simp; omega
      intro v' w2 hown' hgrow _
      obtain ⟨k1, k2, k3, k4⟩ := kids_more (w := w) HS.out H1.out H2.out H3.out hown' hgrow
      have K1 := Aside0.mk k1
      have K2 := Aside0.mk k2
      have K3 := Aside0.mk k3
      have c2_ : w2.cell? ⟨w.heap.size, 0, none⟩ = some v := Boxed.cell k4
      have f2_ : w2.frozen? ⟨w.heap.size, 0, none⟩ = false := Boxed.frozen k4
      obtain ⟨ao, n', cap', rfl⟩ : ∃ ao n' cap', v' = .slice ao n' cap' := by
        rcases hown'.2 with ⟨hv, _⟩ | ⟨g, cap, cur, hv, _⟩
        · exact ⟨_, _, _, hv⟩
        · exact ⟨_, _, _, hv⟩
      clear k1 k2 k3 k4 hown' hgrow
      gi_wp2
      exact ⟨K1.out, K2.out, K3.out⟩
    case done =>
      rintro D ys W hD rfl ⟨⟨v, h1, h2⟩, h3⟩ hK
      have H1 := Aside0.mk h1
      have H2 := Aside0.mk h2
      have H3 := Aside0.mk h3
      have HK := Aside0.mk hK
      have c1_ : W.cell? ⟨w.heap.size, 0, none⟩ = some v := kids_block h1 rfl
      clear h1 h2 h3 hK
      gi_wp2
      refine ⟨by simp, .inl ⟨_, _, rfl, run_takeDeferred HK.out, ?_⟩⟩
      have hI := (kidsI_own (w := w) HS.out).putObj (.deferred none) ⟨⟨v, H1.out, H2.out⟩, H3.out⟩ (by rw [← HS.out]; exact hD) HK.out rfl
      obtain ⟨⟨v2, j1, j2⟩, j3⟩ := hI
      obtain rfl : v2 = v := by
        have e1 := (World.putObj_heap_other (w := W) (o := .deferred none) (show w.heap.size ≠ D by have := HS.out; omega)).symm.trans j1
        rw [H1.out] at e1
        injection e1 with e1; injection e1 with e1; injection e1 with e1; injection e1 with e1; exact e1.symm
      refine ⟨v2, ?_, v2, rfl, ?_, HB0.out.trans j3.1⟩
      · simp [results, Tryd.f35, go_sem]
      · exact Kd.R_of_own (kids_lower j2) (fun _ _ => trivial)
  · have h2 := HIs w (Below.refl _ _) h1
    have hneg : (i != -1) = true := bne_iff_ne.mpr h1
    gi_wp2_with (first | (gi_at_call 59; refine (callsIn_wide.2 h2).mono ?_; clear h2; rintro e w' ⟨rfl, m, rfl⟩) | (gi_at_call 60; refine (kids_in _ _ _ _ _).mono ?_; rintro e w' ⟨rfl, rfl⟩))
    have hb0 := ((Boxed.new (w.drewN m) 29 (.slice none 0 0)).alloc (.cells #[.slice A rs.length cap] 22)).alloc (.cells #[.int .i64 i] 3)
    have hb1 := (Boxed.new ((w.drewN m).alloc (.cells #[.slice none 0 0] 29)) 22 (.slice A rs.length cap)).alloc (.cells #[.int .i64 i] 3)
    have hb2 := Boxed.new (((w.drewN m).alloc (.cells #[.slice none 0 0] 29)).alloc (.cells #[.slice A rs.length cap] 22)) 3 (.int .i64 i)
    simp only [World.size_alloc] at hb1 hb2
    obtain ⟨W0, hW0⟩ : ∃ W0, ((((w.drewN m).alloc (.cells #[.slice none 0 0] 29)).alloc (.cells #[.slice A rs.length cap] 22)).alloc (.cells #[.int .i64 i] 3)) = W0 := ⟨_, rfl⟩
    rw [hW0] at hb0 hb1 hb2
    have hs : W0.heap.size = w.heap.size + 3 := by rw [← hW0, World.size_alloc, World.size_alloc, World.size_alloc] <;> rfl
    have hB0 : Below w.heap.size w W0 := by rw [← hW0]; exact (((pw_below_drewN (Below.refl _ w) m).alloc (Nat.le_refl _) _).alloc (by rw [World.size_alloc]; exact Nat.le_succ _) _).alloc (by rw [World.size_alloc, World.size_alloc]; exact Nat.le_add_right _ 2) _
    rw [hW0]
    clear hW0
    have HB0 := Aside0.mk hB0
    have HS := Aside0.mk hs
    have h0 : KidsI w.heap.size w W0 [] W0 := ⟨⟨.slice none 0 0, hb0, World.ownsRow_nil _ _ _ _⟩, kidsKp_refl _ _ _ _⟩
    refine wpIn_rangeFunc_ownF rfl (by omega) (gf := 79) (lb := #[.pointer (some ⟨w.heap.size + 1, 0, none⟩), .pointer (some ⟨w.heap.size + 1 + 1, 0, none⟩)]) rfl trivial (enters_of Tryd.func79 (by kernel_rfl) rfl)
      (encs := fun x : Int => #[Value.int .i64 x]) (Kp := KidsKp w.heap.size (w.heap.size + 1) (w.heap.size + 2)) (S := fun ys => ys = kidsOf rs i) (Sp := fun _ => True) (N := (kidsOf rs i).length) (w0 := W0)
      (fun l J Jx W hW hJ _ hY hj0 => kids1_in l w.heap.size (w.heap.size + 1) (w.heap.size + 2) cap A rs i hi w HC.out hcap (Nat.le_refl _) J Jx hY W (HB0.out.trans (hW.mono (by omega))) ((hW.block _ (by omega)).trans hb1) ((hW.block _ (by omega)).trans hb2) (fun pre n W h => hJ _ _ _ none h ⟨rfl, rfl, rfl, Nat.le_refl _, fun _ _ _ => rfl⟩ (fun _ e => by cases e)) hj0)
      (fun h k => kidsKp_t h k) (fun W l o o' hl hlo _ _ => ⟨belowK_b (w := W0) (by omega) W l o o' hl hlo (by assumption) (by assumption), World.putObj_heap_other (by omega), World.putObj_heap_other (by omega)⟩) (Below.refl _ _) (fun _ => rfl)
      (KidsI w.heap.size w W0) (fun _ _ _ => False) (by rw [hs]; exact kidsI_own hs) (fun _ => fun _ _ _ _ h _ _ => h) h0
      (fun x => { tmps := #[.slice A rs.length cap, .int .i64 i, undef, undef, .slice none 0 0, .pointer (some ⟨w.heap.size, 0, none⟩), .int .i64 x, .int .i64 i, .bool true, .bool true, .slice A rs.length cap, .int .i64 i, .bool true, .bool false, .bool false, .slice A rs.length cap, .int .i64 i, .func (.func 79) #[] #[.pointer (some ⟨w.heap.size + 1, 0, none⟩), .pointer (some ⟨w.heap.size + 1 + 1, 0, none⟩)], .int .i64 x, undef, undef, undef, undef, undef], defers := [] }) ?assign ?body ?done ?stop
    case assign =>
      intro l x W K hK
      gi_wp2
      exact hK
    case stop =>
      rintro D c pre W hD _ hx
      exact hx.elim
    case body =>
      rintro l pre x W ⟨⟨v, h1, h2⟩, h3⟩ hpl
      have H1 := Aside0.mk h1
      have H2 := Aside0.mk h2
      have H3 := Aside0.mk h3
      have c1_ : W.cell? ⟨w.heap.size, 0, none⟩ = some v := kids_block h1 rfl
      have f1_ : W.frozen? ⟨w.heap.size, 0, none⟩ = false := Boxed.frozen h1
      have hkl := kidsOf_length rs i hi
      obtain ⟨i0, hi0, hz0, hz1, hz2⟩ := info_parts kids_int
      clear h1 h2 h3
      have hex : W.heap.size + 1 = (W.alloc (.cells #[.int .i64 x] 3)).heap.size := by simp
      have hsz : w.heap.size + 3 ≤ W.heap.size := by have := H3.out.1.size; rw [HS.out] at this; exact this
      gi_wp2_with (gi_at_builtin; refine wpListIn_append_own _ rfl _ _ 29 rfl (w.heap.size + 3) 3 i0 (.int .i64 0) 1 8 Tryd.underlying29 hi0 hz0 hz1 hz2 rfl (by decide) _ _ _ rfl (H2.out.alloc _) ⟨W.heap.size, 0, none⟩ 1 1 [.int .i64 x] rfl rfl ?c1 ?c2 ?c3 ?c4 ?c5 ?_)
      case c1 =>
        intro j u hj
        match j, hj with
        | 0, hj => simp at hj; subst hj; simp [Addr.add]
      case c2 => intro u hu; simp at hu; subst hu; rfl
      case c3 => unfold maxLen; omega
      case c4 => omega
      case c5 => simp; omega
      intro v' w2 hown' hgrow _
      obtain ⟨k1, k2, k3, k4⟩ := kids_more (w := w) HS.out H1.out H2.out H3.out hown' hgrow
      have K1 := Aside0.mk k1
      have K2 := Aside0.mk k2
      have K3 := Aside0.mk k3
      have c2_ : w2.cell? ⟨w.heap.size, 0, none⟩ = some v := Boxed.cell k4
      have f2_ : w2.frozen? ⟨w.heap.size, 0, none⟩ = false := Boxed.frozen k4
      obtain ⟨ao, n', cap', rfl⟩ : ∃ ao n' cap', v' = .slice ao n' cap' := by
        rcases hown'.2 with ⟨hv, _⟩ | ⟨g, cap, cur, hv, _⟩
        · exact ⟨_, _, _, hv⟩
        · exact ⟨_, _, _, hv⟩
      clear k1 k2 k3 k4 hown' hgrow
      gi_wp2
      exact ⟨K1.out, K2.out, K3.out⟩
    case done =>
      rintro D ys W hD rfl ⟨⟨v, h1, h2⟩, h3⟩ hK
      have H1 := Aside0.mk h1
      have H2 := Aside0.mk h2
      have H3 := Aside0.mk h3
      have HK := Aside0.mk hK
      have c1_ : W.cell? ⟨w.heap.size, 0, none⟩ = some v := kids_block h1 rfl
      clear h1 h2 h3 hK
      gi_wp2
      refine ⟨by simp, .inl ⟨_, _, rfl, run_takeDeferred HK.out, ?_⟩⟩
      have hI := (kidsI_own (w := w) HS.out).putObj (.deferred none) ⟨⟨v, H1.out, H2.out⟩, H3.out⟩ (by rw [← HS.out]; exact hD) HK.out rfl
      obtain ⟨⟨v2, j1, j2⟩, j3⟩ := hI
      obtain rfl : v2 = v := by
        have e1 := (World.putObj_heap_other (w := W) (o := .deferred none) (show w.heap.size ≠ D by have := HS.out; omega)).symm.trans j1
        rw [H1.out] at e1
        injection e1 with e1; injection e1 with e1; injection e1 with e1; injection e1 with e1; exact e1.symm
      refine ⟨v2, ?_, v2, rfl, ?_, HB0.out.trans j3.1⟩
      · simp [results, Tryd.f35, go_sem]
      · exact Kd.R_of_own (kids_lower j2) (fun _ _ => trivial)
set_option maxHeartbeats 2000000 in
theorem rows_Kids.calls (A0 : Option Addr) (c0 : Nat) (l0 : List S35) (a1 : Int) (r : List Int) (w : World) (hr0 : Kd.C k35 w A0 l0.length l0) (hc0 : l0.length ≤ c0) (h : rows_Kids.f l0 a1 = some r) :
    Calls Tryd.prog 35 #[.slice A0 l0.length c0, .int .i64 a1] w fun e w' => ∃ v0_ : Value, e = .returned v0_ ∧ Kd.R (Kd.int .i64) 3 w' w.heap.size (fun _ => True) v0_ r ∧ Below w.heap.size w w' := by
  unfold rows_Kids.f at h
  split at h
  case isTrue hi =>
    split at h
    case isFalse => cases h
    rename_i hlen
    cases h
    exact callsIn_wide.1 (kidsAll_in A0 c0 l0 a1 hi w hr0 hc0 hlen)
  case isFalse hi =>
    cases h
    have hne : ¬ a1 = -1 := fun e => hi (.inl e)
    have hneg : (a1 != -1) = true := bne_iff_ne.mpr hne
    have hrow : rows_is.f l0 a1 = some false := by
      unfold rows_is.f
      by_cases h0 : a1 ≥ 0
      · rw [if_pos h0, decide_eq_false (fun h => hi (.inr ⟨h0, h⟩))]
      · rw [if_neg h0]
    have hc := rows_is.calls A0 c0 l0 a1 false w hr0 hc0 hrow
    clear hr0
    go_enter Tryd.func35, Tryd.ntmps35
    go_wp2_with (go_at_call 59; refine hc.mono ?_; rintro e w1 ⟨rfl, hd⟩)
    go_ret
    obtain ⟨n, rfl⟩ := hd.out
    exact ⟨_, rfl, Kd.R_nil _ _ _ _ _, pw_below_drewN (Below.refl _ _) _⟩
end Go.Proofs.YtpnhjipaeggcpaaDoor.X
end
section
namespace Go.Proofs.YtpnhjipaeggcpaaDoor.X
open Go.RowKit Go.Proofs.YtpnhjipaeggcpaaDoorW.PrintWords Go.Proofs.YtpnhjipaeggcpaaDoorW.PrintLast Go.Proofs.YtpnhjipaeggcpaaDoorW.PrintMore
attribute [local go_sem] max2_int min2_int max_two min_two max_three min_three max_four min_four
def stringslite_HasPrefix.f (a0 : ByteArray) (a1 : ByteArray) : Option (Bool) := if (a0.size : Int) ≥ (a1.size : Int) then (if 0 ≤ (a1.size : Int) then (if (a1.size : Int) ≤ (a0.size : Int) then (some ((a0.extract 0 ((a1.size : Int) : Int).toNat).toList == a1.toList)) else (none)) else (none)) else (some false)
set_option maxHeartbeats 8000000 in
set_option maxRecDepth 100000 in
theorem stringslite_HasPrefix.calls (a0 : ByteArray) (a1 : ByteArray) (r : Bool) (w : World) (h : stringslite_HasPrefix.f a0 a1 = some r) :
  Calls Tryd.prog 71 #[.string a0, .string a1] w fun e w' => e = .returned (.bool r) ∧ Drawn0 w w' := by
 have H : (if (a0.size : Int) ≥ (a1.size : Int) then (if 0 ≤ (a1.size : Int) then (if (a1.size : Int) ≤ (a0.size : Int) then (some ((a0.extract 0 ((a1.size : Int) : Int).toNat).toList == a1.toList)) else (none)) else (none)) else (some false)) = some r := h
 clear h
 by_cases c3 : (a0.size : Int) ≥ (a1.size : Int)
 ·rw [if_pos c3] at H
  have c3b0 : decide ((a1.size : Int) ≤ (a0.size : Int)) = true := decide_eq_true c3
  have c3b1 : decide (a1.size ≤ a0.size) = true := decide_eq_true (Int.ofNat_le.mp c3)
  clear c3
  by_cases c4 : 0 ≤ (a1.size : Int)
  rotate_left
  ·rw [if_neg c4] at H
   exact absurd H (by simp)
  rw [if_pos c4] at H
  have c4b0 := eq_true c4
  have c4b1 : decide (0 ≤ (a1.size : Int)) = true := decide_eq_true c4
  clear c4
  by_cases c5 : (a1.size : Int) ≤ (a0.size : Int)
  rotate_left
  ·rw [if_neg c5] at H
   exact absurd H (by simp)
  rw [if_pos c5] at H
  have c5b0 := eq_true c5
  have c5b1 : decide ((a1.size : Int) ≤ (a0.size : Int)) = true := decide_eq_true c5
  clear c5
  obtain rfl := Option.some.inj H
  go_enter Tryd.func71, Tryd.ntmps71
  go_wp2
  go_ret
  exact ⟨y4_, y3_⟩
 ·rw [if_neg c3] at H
  have c3b0 : decide ((a1.size : Int) ≤ (a0.size : Int)) = false := decide_eq_false c3
  have c3b1 : decide (a1.size ≤ a0.size) = false := decide_eq_false (fun h => c3 (Int.ofNat_le.mpr h))
  clear c3
  obtain rfl := Option.some.inj H
  go_enter Tryd.func71, Tryd.ntmps71
  go_wp2
  go_ret
  exact ⟨y4_, y3_⟩
end Go.Proofs.YtpnhjipaeggcpaaDoor.X
end
section
namespace Go.Proofs.YtpnhjipaeggcpaaDoor.X
open Go.RowKit Go.Proofs.YtpnhjipaeggcpaaDoorW.PrintWords Go.Proofs.YtpnhjipaeggcpaaDoorW.PrintLast Go.Proofs.YtpnhjipaeggcpaaDoorW.PrintMore
attribute [local go_sem] max2_int min2_int max_two min_two max_three min_three max_four min_four
def strings_HasPrefix.f (a0 : ByteArray) (a1 : ByteArray) : Option (Bool) := (stringslite_HasPrefix.f a0 a1).bind fun t272 => (some t272)
set_option maxHeartbeats 8000000 in
set_option maxRecDepth 100000 in
theorem strings_HasPrefix.calls (a0 : ByteArray) (a1 : ByteArray) (r : Bool) (w : World) (h : strings_HasPrefix.f a0 a1 = some r) :
  Calls Tryd.prog 52 #[.string a0, .string a1] w fun e w' => e = .returned (.bool r) ∧ Drawn0 w w' := by
 have H : ((stringslite_HasPrefix.f a0 a1).bind fun t272 => (some t272)) = some r := h
 clear h
 replace H := Option.bind_eq_some_iff.mp H
 obtain ⟨t272, A30, H⟩ := H
 have A3 := Aside0.mk A30
 clear A30
 obtain rfl := Option.some.inj H
 go_enter Tryd.func52, Tryd.ntmps52
 go_wp2_with (first | ((with_reducible refine gate_callee (f := 71) rfl ?_); refine goesL_ (some 7) rfl rfl Tryd.func71 (by kernel_rfl) rfl #[.string a0, .string a1] rfl y14_ ?_; (with_reducible refine (stringslite_HasPrefix.calls a0 a1 t272 _ A3.out).mono ?_); rintro e w' ⟨rfl, ⟨nd, rfl⟩⟩; refine ⟨_, rfl, ?_⟩))
 go_ret
 exact ⟨y4_, y3_⟩
end Go.Proofs.YtpnhjipaeggcpaaDoor.X
end
section
namespace Go.Proofs.YtpnhjipaeggcpaaDoor.X
open Go.RowKit Go.Proofs.YtpnhjipaeggcpaaDoorW.PrintWords Go.Proofs.YtpnhjipaeggcpaaDoorW.PrintLast Go.Proofs.YtpnhjipaeggcpaaDoorW.PrintMore
attribute [local go_sem] max2_int min2_int max_two min_two max_three min_three max_four min_four
def names_among.l0 : Nat → ByteArray → List ByteArray → Int → Int → Option (Bool)
 | 0, _, _, _, _ => none
 | k + 1, x0, x7, x8, x9 => if x9 < x8 then (if 0 ≤ x9 then (if x9 < (x7.length : Int) then (if (rdOf ByteArray.empty x7 x9).toList = x0.toList then (some true) else (names_among.l0 k x0 x7 x8 (wrap64 (x9 + 1)))) else (none)) else (none)) else (some false)
def names_among.f (k : Nat) (a0 : ByteArray) (l1 : List ByteArray) : Option (Bool) := names_among.l0 k a0 l1 (l1.length : Int) 0
set_option maxHeartbeats 8000000 in
set_option maxRecDepth 100000 in
theorem names_among.calls (k : Nat) (a0 : ByteArray) (A1 : Option Addr) (c1 : Nat) (l1 : List ByteArray) (r : Bool) (w : World) (hr1 : Kd.C Kd.string w A1 l1.length l1) (hc1 : l1.length ≤ c1) (h : names_among.f k a0 l1 = some r) :
  Calls Tryd.prog 42 #[.string a0, .slice A1 l1.length c1] w fun e w' => e = .returned (.bool r) ∧ Drawn0 w w' := by
 have HR1 := Aside0.mk hr1
 have HC1 := Aside0.mk hc1
 clear hr1 hc1
 have H : (names_among.l0 k a0 l1 (l1.length : Int) 0) = some r := h
 clear h
 have H' := Aside0.mk H
 clear H
 go_enter Tryd.func42, Tryd.ntmps42
 go_wp2
 go_loopg [9] k (fun kq v9 w' => ∃ (x9_1 : Int), v9 = .int .i64 x9_1 ∧ Aside0 (names_among.l0 kq a0 l1 (l1.length : Int) x9_1 = some r) ∧ Aside0 (kq ≤ k) ∧ Drawn0 w w')
 case atStart => exact ⟨(0), y4_, H', ⟨Nat.le_refl _⟩, y3_⟩
 case round =>
  clear H'
  try clear c1
  try clear p2
  obtain ⟨x9_1, rfl, HA, HK1, ⟨m1, rfl⟩⟩ := hrel
  cases gk with
  | zero => exact absurd HA.out (by simp [names_among.l0])
  | succ k1 =>
   have H := HA.out
   clear HA
   simp only [names_among.l0] at H
   by_cases c3 : x9_1 < (l1.length : Int)
   ·rw [if_pos c3] at H
    have c3b0 : decide (x9_1 < (l1.length : Int)) = true := decide_eq_true c3
    clear c3
    by_cases c4 : 0 ≤ x9_1
    rotate_left
    ·rw [if_neg c4] at H
     exact absurd H (by simp)
    rw [if_pos c4] at H
    have c4b0 : decide (0 ≤ x9_1) = true := decide_eq_true c4
    clear c4
    by_cases c5 : x9_1 < (l1.length : Int)
    rotate_left
    ·rw [if_neg c5] at H
     exact absurd H (by simp)
    rw [if_pos c5] at H
    have c5b0 : decide (x9_1 < (l1.length : Int)) = true := decide_eq_true c5
    clear c5
    by_cases c6 : (rdOf ByteArray.empty l1 x9_1).toList = a0.toList
    ·rw [if_pos c6] at H
     have c6b0 : ((rdOf ByteArray.empty l1 x9_1).toList == a0.toList) = true := beq_iff_eq.mpr c6
     have c6b1 : ((rdOf ByteArray.empty l1 x9_1).toList != a0.toList) = false := bne_eq_false_iff_eq.mpr c6
     clear c6
     obtain rfl := Option.some.inj H
     have p185 : 0 ≤ (x9_1 : Int) := of_decide_eq_true y2_
     have q185 : x9_1 < (l1.length : Int) := of_decide_eq_true y2_
     obtain ⟨ad185, e185, hx185_0⟩ := Kd.at_string HR1.out x9_1 p185 q185
     cases e185
     replace p185 := eq_true p185
     replace q185 := eq_true q185
     go_wp2
     go_ret
     exact ⟨y4_, y3_⟩
    ·rw [if_neg c6] at H
     have c6b0 : ((rdOf ByteArray.empty l1 x9_1).toList == a0.toList) = false := beq_eq_false_iff_ne.mpr c6
     have c6b1 : ((rdOf ByteArray.empty l1 x9_1).toList != a0.toList) = true := bne_iff_ne.mpr c6
     have H' := Aside0.mk H
     clear H
     have p185 : 0 ≤ (x9_1 : Int) := of_decide_eq_true y2_
     have q185 : x9_1 < (l1.length : Int) := of_decide_eq_true y2_
     obtain ⟨ad185, e185, hx185_0⟩ := Kd.at_string HR1.out x9_1 p185 q185
     cases e185
     replace p185 := eq_true p185
     replace q185 := eq_true q185
     go_wp2
     go_roundg k1
     case measure => have := HK1.out; omega
     case rel => exact ⟨(wrap64 (x9_1 + 1)), y4_, H', ⟨by have := HK1.out; omega⟩, y3_⟩
   ·rw [if_neg c3] at H
    have c3b0 : decide (x9_1 < (l1.length : Int)) = false := decide_eq_false c3
    clear c3
    obtain rfl := Option.some.inj H
    go_wp2
    go_ret
    exact ⟨y4_, y3_⟩
end Go.Proofs.YtpnhjipaeggcpaaDoor.X
end
section
namespace Go.Proofs.YtpnhjipaeggcpaaDoor.X
open Go.RowKit Go.Proofs.YtpnhjipaeggcpaaDoorW.PrintWords Go.Proofs.YtpnhjipaeggcpaaDoorW.PrintLast Go.Proofs.YtpnhjipaeggcpaaDoorW.PrintMore
attribute [local go_sem] max2_int min2_int max_two min_two max_three min_three max_four min_four
def names_Raw.f (k : Nat) (a0 : ByteArray) : Option (Bool) := (names_among.f k a0 (([(⟨#[105, 102, 114, 97, 109, 101]⟩ : ByteArray), (⟨#[110, 111, 101, 109, 98, 101, 100]⟩ : ByteArray), (⟨#[110, 111, 102, 114, 97, 109, 101, 115]⟩ : ByteArray), (⟨#[115, 99, 114, 105, 112, 116]⟩ : ByteArray), (⟨#[115, 116, 121, 108, 101]⟩ : ByteArray), (⟨#[120, 109, 112]⟩ : ByteArray)] : List ByteArray))).bind fun t382 => (some t382)
set_option maxHeartbeats 8000000 in
set_option maxRecDepth 100000 in
theorem names_Raw.calls (k : Nat) (a0 : ByteArray) (r : Bool) (w : World) (h : names_Raw.f k a0 = some r) :
  Calls Tryd.prog 40 #[.string a0] w fun e w' => e = .returned (.bool r) ∧ Below w.heap.size w w' := by
 have HB := Aside0.mk (Below.refl w.heap.size w)
 have H : ((names_among.f k a0 (([(⟨#[105, 102, 114, 97, 109, 101]⟩ : ByteArray), (⟨#[110, 111, 101, 109, 98, 101, 100]⟩ : ByteArray), (⟨#[110, 111, 102, 114, 97, 109, 101, 115]⟩ : ByteArray), (⟨#[115, 99, 114, 105, 112, 116]⟩ : ByteArray), (⟨#[115, 116, 121, 108, 101]⟩ : ByteArray), (⟨#[120, 109, 112]⟩ : ByteArray)] : List ByteArray))).bind fun t382 => (some t382)) = some r := h
 clear h
 obtain ⟨y379, hy379⟩ : ∃ y_ : List ByteArray, y_ = (([(⟨#[105, 102, 114, 97, 109, 101]⟩ : ByteArray), (⟨#[110, 111, 101, 109, 98, 101, 100]⟩ : ByteArray), (⟨#[110, 111, 102, 114, 97, 109, 101, 115]⟩ : ByteArray), (⟨#[115, 99, 114, 105, 112, 116]⟩ : ByteArray), (⟨#[115, 116, 121, 108, 101]⟩ : ByteArray), (⟨#[120, 109, 112]⟩ : ByteArray)] : List ByteArray)) := ⟨_, rfl⟩
 replace H : ((names_among.f k a0 y379).bind fun t382 => (some t382)) = some r := by first | (rw [hy379]; with_reducible exact H) | (have H2_ := (Option.bind_some _ _).symm.trans H; rw [hy379]; with_reducible exact H2_) | (have H2_ := (Option.bind_some _ _).symm.trans H; with_reducible exact H2_) | with_reducible exact H | (rw [hy379]; exact H) | exact H
 have Ny379 := Aside0.mk hy379
 clear hy379
 replace H := Option.bind_eq_some_iff.mp H
 obtain ⟨t382, A20, H⟩ := H
 have A2 := Aside0.mk A20
 clear A20
 obtain rfl := Option.some.inj H
 go_enter Tryd.func40, Tryd.ntmps40
 go_wp2_with (first | ((with_reducible refine gate_dst (N := 4) rfl ?_); refine Kd.R_lit Kd.string _ 9 ?hg (N := 4) ?hd (xs := ([(⟨#[105, 102, 114, 97, 109, 101]⟩ : ByteArray), (⟨#[110, 111, 101, 109, 98, 101, 100]⟩ : ByteArray), (⟨#[110, 111, 102, 114, 97, 109, 101, 115]⟩ : ByteArray), (⟨#[115, 99, 114, 105, 112, 116]⟩ : ByteArray), (⟨#[115, 116, 121, 108, 101]⟩ : ByteArray), (⟨#[120, 109, 112]⟩ : ByteArray)] : List ByteArray)) (inner := [.string (⟨#[105, 102, 114, 97, 109, 101]⟩ : ByteArray), .string (⟨#[110, 111, 101, 109, 98, 101, 100]⟩ : ByteArray), .string (⟨#[110, 111, 102, 114, 97, 109, 101, 115]⟩ : ByteArray), .string (⟨#[115, 99, 114, 105, 112, 116]⟩ : ByteArray), .string (⟨#[115, 116, 121, 108, 101]⟩ : ByteArray), .string (⟨#[120, 109, 112]⟩ : ByteArray)]) (ok := fun _ => True) (okp := fun _ => True) ?hr ?hp (fun _ hk => hk) trivial (Below.refl _ _) (Nat.le_refl _) (by simp) ?_; (case hd => rfl); (case hg => rfl); (case hr => first | (go_simp; done) | (go_simp; rfl)); (case hp => exact (Reps.one (show Kd.M Kd.string _ _ _ (⟨#[105, 102, 114, 97, 109, 101]⟩ : ByteArray) [.string (⟨#[105, 102, 114, 97, 109, 101]⟩ : ByteArray)] from rfl) (Reps.one (show Kd.M Kd.string _ _ _ (⟨#[110, 111, 101, 109, 98, 101, 100]⟩ : ByteArray) [.string (⟨#[110, 111, 101, 109, 98, 101, 100]⟩ : ByteArray)] from rfl) (Reps.one (show Kd.M Kd.string _ _ _ (⟨#[110, 111, 102, 114, 97, 109, 101, 115]⟩ : ByteArray) [.string (⟨#[110, 111, 102, 114, 97, 109, 101, 115]⟩ : ByteArray)] from rfl) (Reps.one (show Kd.M Kd.string _ _ _ (⟨#[115, 99, 114, 105, 112, 116]⟩ : ByteArray) [.string (⟨#[115, 99, 114, 105, 112, 116]⟩ : ByteArray)] from rfl) (Reps.one (show Kd.M Kd.string _ _ _ (⟨#[115, 116, 121, 108, 101]⟩ : ByteArray) [.string (⟨#[115, 116, 121, 108, 101]⟩ : ByteArray)] from rfl) (Reps.one (show Kd.M Kd.string _ _ _ (⟨#[120, 109, 112]⟩ : ByteArray) [.string (⟨#[120, 109, 112]⟩ : ByteArray)] from rfl) (Reps.none _ _)))))))); intro v380 w3 ho4 hb hg_ hnew_; clear hg_ hnew_; (first | rw [← Ny379.out] at ho4 | (simp only [Int.reduceToNat] at ho4; rw [← Ny379.out] at ho4)); have n0_ := Aside0.mk (Kd.R_lower ho4 (below_size y13_)); have n1_ := Aside0.mk (below_step y13_ hb); clear HB; have HO381 := n0_; have HB := n1_; clear n0_ n1_; clear hb ho4; obtain ⟨Ao5, co5, eo5⟩ := Kd.R_slice HO381.out; subst eo5) | ((with_reducible refine gate_callee (f := 42) rfl ?_); refine goesL_ (some 5) rfl rfl Tryd.func42 (by kernel_rfl) rfl #[.string a0, .slice Ao5 y379.length co5] rfl y14_ ?_; (with_reducible refine (names_among.calls k a0 _ _ y379 t382 _ ?side1 ?side2 A2.out).mono ?_); (case side1 => repeat (first | exact (Kd.R_reads' HO381.out).2.2 | (with_reducible refine Kd.C_alloc ?_ _) | (with_reducible refine Kd.C_drewN ?_ _) | (with_reducible refine Kd.C_drew ?_))); (case side2 => exact (Kd.R_reads' HO381.out).2.1); rintro e w' ⟨rfl, ⟨nd, rfl⟩⟩; refine ⟨_, rfl, ?_⟩))
 go_ret
 exact ⟨y12_, y13_⟩
end Go.Proofs.YtpnhjipaeggcpaaDoor.X
end
section
namespace Go.Proofs.YtpnhjipaeggcpaaDoor.X
open Go.RowKit Go.Proofs.YtpnhjipaeggcpaaDoorW.PrintWords Go.Proofs.YtpnhjipaeggcpaaDoorW.PrintLast Go.Proofs.YtpnhjipaeggcpaaDoorW.PrintMore
attribute [local go_sem] max2_int min2_int max_two min_two max_three min_three max_four min_four
def names_Void.f (k : Nat) (a0 : ByteArray) : Option (Bool) := (names_among.f k a0 (([(⟨#[97, 114, 101, 97]⟩ : ByteArray), (⟨#[98, 97, 115, 101]⟩ : ByteArray), (⟨#[98, 114]⟩ : ByteArray), (⟨#[99, 111, 108]⟩ : ByteArray), (⟨#[101, 109, 98, 101, 100]⟩ : ByteArray), (⟨#[104, 114]⟩ : ByteArray), (⟨#[105, 109, 103]⟩ : ByteArray), (⟨#[105, 110, 112, 117, 116]⟩ : ByteArray), (⟨#[108, 105, 110, 107]⟩ : ByteArray), (⟨#[109, 101, 116, 97]⟩ : ByteArray), (⟨#[112, 97, 114, 97, 109]⟩ : ByteArray), (⟨#[115, 111, 117, 114, 99, 101]⟩ : ByteArray), (⟨#[116, 114, 97, 99, 107]⟩ : ByteArray), (⟨#[119, 98, 114]⟩ : ByteArray)] : List ByteArray))).bind fun t189 => (some t189)
set_option maxHeartbeats 8000000 in
set_option maxRecDepth 100000 in
theorem names_Void.calls (k : Nat) (a0 : ByteArray) (r : Bool) (w : World) (h : names_Void.f k a0 = some r) :
  Calls Tryd.prog 26 #[.string a0] w fun e w' => e = .returned (.bool r) ∧ Below w.heap.size w w' := by
 have HB := Aside0.mk (Below.refl w.heap.size w)
 have H : ((names_among.f k a0 (([(⟨#[97, 114, 101, 97]⟩ : ByteArray), (⟨#[98, 97, 115, 101]⟩ : ByteArray), (⟨#[98, 114]⟩ : ByteArray), (⟨#[99, 111, 108]⟩ : ByteArray), (⟨#[101, 109, 98, 101, 100]⟩ : ByteArray), (⟨#[104, 114]⟩ : ByteArray), (⟨#[105, 109, 103]⟩ : ByteArray), (⟨#[105, 110, 112, 117, 116]⟩ : ByteArray), (⟨#[108, 105, 110, 107]⟩ : ByteArray), (⟨#[109, 101, 116, 97]⟩ : ByteArray), (⟨#[112, 97, 114, 97, 109]⟩ : ByteArray), (⟨#[115, 111, 117, 114, 99, 101]⟩ : ByteArray), (⟨#[116, 114, 97, 99, 107]⟩ : ByteArray), (⟨#[119, 98, 114]⟩ : ByteArray)] : List ByteArray))).bind fun t189 => (some t189)) = some r := h
 clear h
 obtain ⟨y186, hy186⟩ : ∃ y_ : List ByteArray, y_ = (([(⟨#[97, 114, 101, 97]⟩ : ByteArray), (⟨#[98, 97, 115, 101]⟩ : ByteArray), (⟨#[98, 114]⟩ : ByteArray), (⟨#[99, 111, 108]⟩ : ByteArray), (⟨#[101, 109, 98, 101, 100]⟩ : ByteArray), (⟨#[104, 114]⟩ : ByteArray), (⟨#[105, 109, 103]⟩ : ByteArray), (⟨#[105, 110, 112, 117, 116]⟩ : ByteArray), (⟨#[108, 105, 110, 107]⟩ : ByteArray), (⟨#[109, 101, 116, 97]⟩ : ByteArray), (⟨#[112, 97, 114, 97, 109]⟩ : ByteArray), (⟨#[115, 111, 117, 114, 99, 101]⟩ : ByteArray), (⟨#[116, 114, 97, 99, 107]⟩ : ByteArray), (⟨#[119, 98, 114]⟩ : ByteArray)] : List ByteArray)) := ⟨_, rfl⟩
 replace H : ((names_among.f k a0 y186).bind fun t189 => (some t189)) = some r := by first | (rw [hy186]; with_reducible exact H) | (have H2_ := (Option.bind_some _ _).symm.trans H; rw [hy186]; with_reducible exact H2_) | (have H2_ := (Option.bind_some _ _).symm.trans H; with_reducible exact H2_) | with_reducible exact H | (rw [hy186]; exact H) | exact H
 have Ny186 := Aside0.mk hy186
 clear hy186
 replace H := Option.bind_eq_some_iff.mp H
 obtain ⟨t189, A20, H⟩ := H
 have A2 := Aside0.mk A20
 clear A20
 obtain rfl := Option.some.inj H
 go_enter Tryd.func26, Tryd.ntmps26
 go_wp2_with (first | ((with_reducible refine gate_dst (N := 4) rfl ?_); refine Kd.R_lit Kd.string _ 9 ?hg (N := 4) ?hd (xs := ([(⟨#[97, 114, 101, 97]⟩ : ByteArray), (⟨#[98, 97, 115, 101]⟩ : ByteArray), (⟨#[98, 114]⟩ : ByteArray), (⟨#[99, 111, 108]⟩ : ByteArray), (⟨#[101, 109, 98, 101, 100]⟩ : ByteArray), (⟨#[104, 114]⟩ : ByteArray), (⟨#[105, 109, 103]⟩ : ByteArray), (⟨#[105, 110, 112, 117, 116]⟩ : ByteArray), (⟨#[108, 105, 110, 107]⟩ : ByteArray), (⟨#[109, 101, 116, 97]⟩ : ByteArray), (⟨#[112, 97, 114, 97, 109]⟩ : ByteArray), (⟨#[115, 111, 117, 114, 99, 101]⟩ : ByteArray), (⟨#[116, 114, 97, 99, 107]⟩ : ByteArray), (⟨#[119, 98, 114]⟩ : ByteArray)] : List ByteArray)) (inner := [.string (⟨#[97, 114, 101, 97]⟩ : ByteArray), .string (⟨#[98, 97, 115, 101]⟩ : ByteArray), .string (⟨#[98, 114]⟩ : ByteArray), .string (⟨#[99, 111, 108]⟩ : ByteArray), .string (⟨#[101, 109, 98, 101, 100]⟩ : ByteArray), .string (⟨#[104, 114]⟩ : ByteArray), .string (⟨#[105, 109, 103]⟩ : ByteArray), .string (⟨#[105, 110, 112, 117, 116]⟩ : ByteArray), .string (⟨#[108, 105, 110, 107]⟩ : ByteArray), .string (⟨#[109, 101, 116, 97]⟩ : ByteArray), .string (⟨#[112, 97, 114, 97, 109]⟩ : ByteArray), .string (⟨#[115, 111, 117, 114, 99, 101]⟩ : ByteArray), .string (⟨#[116, 114, 97, 99, 107]⟩ : ByteArray), .string (⟨#[119, 98, 114]⟩ : ByteArray)]) (ok := fun _ => True) (okp := fun _ => True) ?hr ?hp (fun _ hk => hk) trivial (Below.refl _ _) (Nat.le_refl _) (by simp) ?_; (case hd => rfl); (case hg => rfl); (case hr => first | (go_simp; done) | (go_simp; rfl)); (case hp => exact (Reps.one (show Kd.M Kd.string _ _ _ (⟨#[97, 114, 101, 97]⟩ : ByteArray) [.string (⟨#[97, 114, 101, 97]⟩ : ByteArray)] from rfl) (Reps.one (show Kd.M Kd.string _ _ _ (⟨#[98, 97, 115, 101]⟩ : ByteArray) [.string (⟨#[98, 97, 115, 101]⟩ : ByteArray)] from rfl) (Reps.one (show Kd.M Kd.string _ _ _ (⟨#[98, 114]⟩ : ByteArray) [.string (⟨#[98, 114]⟩ : ByteArray)] from rfl) (Reps.one (show Kd.M Kd.string _ _ _ (⟨#[99, 111, 108]⟩ : ByteArray) [.string (⟨#[99, 111, 108]⟩ : ByteArray)] from rfl) (Reps.one (show Kd.M Kd.string _ _ _ (⟨#[101, 109, 98, 101, 100]⟩ : ByteArray) [.string (⟨#[101, 109, 98, 101, 100]⟩ : ByteArray)] from rfl) (Reps.one (show Kd.M Kd.string _ _ _ (⟨#[104, 114]⟩ : ByteArray) [.string (⟨#[104, 114]⟩ : ByteArray)] from rfl) (Reps.one (show Kd.M Kd.string _ _ _ (⟨#[105, 109, 103]⟩ : ByteArray) [.string (⟨#[105, 109, 103]⟩ : ByteArray)] from rfl) (Reps.one (show Kd.M Kd.string _ _ _ (⟨#[105, 110, 112, 117, 116]⟩ : ByteArray) [.string (⟨#[105, 110, 112, 117, 116]⟩ : ByteArray)] from rfl) (Reps.one (show Kd.M Kd.string _ _ _ (⟨#[108, 105, 110, 107]⟩ : ByteArray) [.string (⟨#[108, 105, 110, 107]⟩ : ByteArray)] from rfl) (Reps.one (show Kd.M Kd.string _ _ _ (⟨#[109, 101, 116, 97]⟩ : ByteArray) [.string (⟨#[109, 101, 116, 97]⟩ : ByteArray)] from rfl) (Reps.one (show Kd.M Kd.string _ _ _ (⟨#[112, 97, 114, 97, 109]⟩ : ByteArray) [.string (⟨#[112, 97, 114, 97, 109]⟩ : ByteArray)] from rfl) (Reps.one (show Kd.M Kd.string _ _ _ (⟨#[115, 111, 117, 114, 99, 101]⟩ : ByteArray) [.string (⟨#[115, 111, 117, 114, 99, 101]⟩ : ByteArray)] from rfl) (Reps.one (show Kd.M Kd.string _ _ _ (⟨#[116, 114, 97, 99, 107]⟩ : ByteArray) [.string (⟨#[116, 114, 97, 99, 107]⟩ : ByteArray)] from rfl) (Reps.one (show Kd.M Kd.string _ _ _ (⟨#[119, 98, 114]⟩ : ByteArray) [.string (⟨#[119, 98, 114]⟩ : ByteArray)] from rfl) (Reps.none _ _)))))))))))))))); intro v187 w3 ho4 hb hg_ hnew_; clear hg_ hnew_; (first | rw [← Ny186.out] at ho4 | (simp only [Int.reduceToNat] at ho4; rw [← Ny186.out] at ho4)); have n0_ := Aside0.mk (Kd.R_lower ho4 (below_size y13_)); have n1_ := Aside0.mk (below_step y13_ hb); clear HB; have HO188 := n0_; have HB := n1_; clear n0_ n1_; clear hb ho4; obtain ⟨Ao5, co5, eo5⟩ := Kd.R_slice HO188.out; subst eo5) | ((with_reducible refine gate_callee (f := 42) rfl ?_); refine goesL_ (some 5) rfl rfl Tryd.func42 (by kernel_rfl) rfl #[.string a0, .slice Ao5 y186.length co5] rfl y14_ ?_; (with_reducible refine (names_among.calls k a0 _ _ y186 t189 _ ?side1 ?side2 A2.out).mono ?_); (case side1 => repeat (first | exact (Kd.R_reads' HO188.out).2.2 | (with_reducible refine Kd.C_alloc ?_ _) | (with_reducible refine Kd.C_drewN ?_ _) | (with_reducible refine Kd.C_drew ?_))); (case side2 => exact (Kd.R_reads' HO188.out).2.1); rintro e w' ⟨rfl, ⟨nd, rfl⟩⟩; refine ⟨_, rfl, ?_⟩))
 go_ret
 exact ⟨y12_, y13_⟩
end Go.Proofs.YtpnhjipaeggcpaaDoor.X
end
section
namespace Go.Proofs.YtpnhjipaeggcpaaDoor.X
open Go.RowKit Go.Proofs.YtpnhjipaeggcpaaDoorW.PrintWords Go.Proofs.YtpnhjipaeggcpaaDoorW.PrintLast Go.Proofs.YtpnhjipaeggcpaaDoorW.PrintMore
attribute [local go_sem] max2_int min2_int max_two min_two max_three min_three max_four min_four
end Go.Proofs.YtpnhjipaeggcpaaDoor.X
end
section
namespace Go.Proofs.YtpnhjipaeggcpaaDoor.X
open Go.RowKit Go.Proofs.YtpnhjipaeggcpaaDoorW.PrintWords Go.Proofs.YtpnhjipaeggcpaaDoorW.PrintLast Go.Proofs.YtpnhjipaeggcpaaDoorW.PrintMore
attribute [local go_sem] max2_int min2_int max_two min_two max_three min_three max_four min_four
def boltingref03_Write.l0 : Nat → ByteArray → Bool → List Int → Int → Option (ByteArray)
 | 0, _, _, _, _ => none
 | k + 1, x0, x1, x5, x6 => if x6 < (x0.size : Int) then (if 0 ≤ x6 then (if x6 ≤ (wrap64 (x6 + 1)) then (if (wrap64 (x6 + 1)) ≤ (x0.size : Int) then (if (bt x0 x6) = 38 then (if x5.length + 5 < 140737488355328 then (boltingref03_Write.l0 k x0 x1 (x5 ++ bytesOf (⟨#[38, 97, 109, 112, 59]⟩ : ByteArray)) (wrap64 (x6 + 1))) else (none)) else (if (bt x0 x6) = 60 then (if x5.length + 4 < 140737488355328 then (boltingref03_Write.l0 k x0 x1 (x5 ++ bytesOf (⟨#[38, 108, 116, 59]⟩ : ByteArray)) (wrap64 (x6 + 1))) else (none)) else (if (bt x0 x6) = 62 then (if x5.length + 4 < 140737488355328 then (boltingref03_Write.l0 k x0 x1 (x5 ++ bytesOf (⟨#[38, 103, 116, 59]⟩ : ByteArray)) (wrap64 (x6 + 1))) else (none)) else (if (bt x0 x6) = 34 then (if x1 = true then (if x5.length + 6 < 140737488355328 then (boltingref03_Write.l0 k x0 x1 (x5 ++ bytesOf (⟨#[38, 113, 117, 111, 116, 59]⟩ : ByteArray)) (wrap64 (x6 + 1))) else (none)) else (if x5.length + (x0.extract (x6 : Int).toNat ((wrap64 (x6 + 1)) : Int).toNat).size < 140737488355328 then (boltingref03_Write.l0 k x0 x1 (x5 ++ bytesOf (x0.extract (x6 : Int).toNat ((wrap64 (x6 + 1)) : Int).toNat)) (wrap64 (x6 + 1))) else (none))) else (if (bt x0 x6) = 194 then (if (wrap64 (x6 + 1)) < (x0.size : Int) then (if 0 ≤ (wrap64 (x6 + 1)) then (if (bt x0 (wrap64 (x6 + 1))) = 160 then (if x5.length + 6 < 140737488355328 then (boltingref03_Write.l0 k x0 x1 (x5 ++ bytesOf (⟨#[38, 110, 98, 115, 112, 59]⟩ : ByteArray)) (wrap64 ((wrap64 (x6 + 1)) + 1))) else (none)) else (if x5.length + (x0.extract (x6 : Int).toNat ((wrap64 (x6 + 1)) : Int).toNat).size < 140737488355328 then (boltingref03_Write.l0 k x0 x1 (x5 ++ bytesOf (x0.extract (x6 : Int).toNat ((wrap64 (x6 + 1)) : Int).toNat)) (wrap64 (x6 + 1))) else (none))) else (none)) else (if x5.length + (x0.extract (x6 : Int).toNat ((wrap64 (x6 + 1)) : Int).toNat).size < 140737488355328 then (boltingref03_Write.l0 k x0 x1 (x5 ++ bytesOf (x0.extract (x6 : Int).toNat ((wrap64 (x6 + 1)) : Int).toNat)) (wrap64 (x6 + 1))) else (none))) else (if x5.length + (x0.extract (x6 : Int).toNat ((wrap64 (x6 + 1)) : Int).toNat).size < 140737488355328 then (boltingref03_Write.l0 k x0 x1 (x5 ++ bytesOf (x0.extract (x6 : Int).toNat ((wrap64 (x6 + 1)) : Int).toNat)) (wrap64 (x6 + 1))) else (none))))))) else (none)) else (none)) else (none)) else (some (strOfNums x5))
def boltingref03_Write.f (k : Nat) (a0 : ByteArray) (a1 : Bool) : Option (ByteArray) := boltingref03_Write.l0 k a0 a1 (([] : List Int)) 0
end Go.Proofs.YtpnhjipaeggcpaaDoor.X
end
section
namespace Go.Proofs.YtpnhjipaeggcpaaDoor.X
open Go.RowKit Go.Proofs.YtpnhjipaeggcpaaDoorW.PrintWords Go.Proofs.YtpnhjipaeggcpaaDoorW.PrintLast Go.Proofs.YtpnhjipaeggcpaaDoorW.PrintMore
attribute [local go_sem] max2_int min2_int max_two min_two max_three min_three max_four min_four
def boltingref08_tag.l0 : Nat → ByteArray → Int → Int → Int → ByteArray → ByteArray → List (S41) → Option (ByteArray)
 | 0, _, _, _, _, _, _, _ => none
 | k + 1, x3, x4, x162000, x162001, x162002, x162003, x162004 => if x4 < (x162004.length : Int) then (if 0 ≤ x4 then (if 1 + ((rd_T41 x162004 x4).f0).size ≤ 9223372036854775807 then (if ((⟨#[32]⟩ : ByteArray) ++ ((rd_T41 x162004 x4).f0)).size + 2 ≤ 9223372036854775807 then ((boltingref03_Write.f k ((rd_T41 x162004 x4).f1) true).bind fun t164 => (if (((⟨#[32]⟩ : ByteArray) ++ ((rd_T41 x162004 x4).f0)) ++ (⟨#[61, 34]⟩ : ByteArray)).size + t164.size ≤ 9223372036854775807 then (if ((((⟨#[32]⟩ : ByteArray) ++ ((rd_T41 x162004 x4).f0)) ++ (⟨#[61, 34]⟩ : ByteArray)) ++ t164).size + 1 ≤ 9223372036854775807 then (if x3.size + (((((⟨#[32]⟩ : ByteArray) ++ ((rd_T41 x162004 x4).f0)) ++ (⟨#[61, 34]⟩ : ByteArray)) ++ t164) ++ (⟨#[34]⟩ : ByteArray)).size ≤ 9223372036854775807 then (boltingref08_tag.l0 k (x3 ++ (((((⟨#[32]⟩ : ByteArray) ++ ((rd_T41 x162004 x4).f0)) ++ (⟨#[61, 34]⟩ : ByteArray)) ++ t164) ++ (⟨#[34]⟩ : ByteArray))) (wrap64 (x4 + 1)) x162000 x162001 x162002 x162003 x162004) else (none)) else (none)) else (none))) else (none)) else (none)) else (none)) else (if x3.size + 1 ≤ 9223372036854775807 then (some (x3 ++ (⟨#[62]⟩ : ByteArray))) else (none))
def boltingref08_tag.f (k : Nat) (a0_0 : Int) (a0_1 : Int) (a0_2 : ByteArray) (a0_3 : ByteArray) (l0_4 : List (S41)) : Option (ByteArray) := if 1 + a0_2.size ≤ 9223372036854775807 then (boltingref08_tag.l0 k ((⟨#[60]⟩ : ByteArray) ++ a0_2) 0 a0_0 a0_1 a0_2 a0_3 l0_4) else (none)
def boltingref08_tag.T5 : Bool × List (List Nat × List Nat) := (true, [([], []), ([], []), ([1], [1]), ([], []), ([2, 3], [2, 3]), ([4], [4]), ([5], [5]), ([6], [6]), ([7], [7]), ([], []), ([9], [9]), ([], []), ([10, 11], [10, 11]), ([12], [12]), ([13], [13]), ([14], [14]), ([8, 15], [8, 15]), ([16], [16]), ([0, 17], [0, 17]), ([18, 15, 0, 1, 2, 3, 4, 5, 6, 7, 8, 9, 10, 11, 12, 13, 14, 15, 16, 17, 18], [0, 18])])
def boltingref08_tag.B5 : List Nat := [0, 0, 2, 0, 14, 30, 62, 126, 254, 0, 512, 0, 3584, 7680, 15872, 32256, 65534, 131070, 262143, 524287]
theorem boltingref08_tag.tab5 : rtab .any (opsOf Tryd.f25 5) = boltingref08_tag.T5 := by kernel_rfl
theorem boltingref08_tag.bits5 : waitsOk boltingref08_tag.T5.2 boltingref08_tag.B5 = true := by kernel_rfl
end Go.Proofs.YtpnhjipaeggcpaaDoor.X
end
section
namespace Go.Proofs.YtpnhjipaeggcpaaDoor.X
open Go.RowKit Go.Proofs.YtpnhjipaeggcpaaDoorW.PrintWords Go.Proofs.YtpnhjipaeggcpaaDoorW.PrintLast Go.Proofs.YtpnhjipaeggcpaaDoorW.PrintMore
attribute [local go_sem] max2_int min2_int max_two min_two max_three min_three max_four min_four
mutual
def boltingref04_Row.j0 : Nat → Bool → Int → Int → ByteArray → ByteArray → List (S41) → Option (Bool)
 | 0, _, _, _, _, _, _ => none
 | k + 1, x12, x115000, x115001, x115002, x115003, x115004 => if x12 = true then (if x115002.toList = ([] : List UInt8) then (some ((x115004.length : Int) == 0)) else (some false)) else (boltingref04_Row.l0 k 0 x115000 x115001 x115002 x115003 x115004)
def boltingref04_Row.l0 : Nat → Int → Int → Int → ByteArray → ByteArray → List (S41) → Option (Bool)
 | 0, _, _, _, _, _, _ => none
 | k + 1, x3, x115000, x115001, x115002, x115003, x115004 => if x3 < (x115004.length : Int) then (boltingref04_Row.l1 k x3 0 x115000 x115001 x115002 x115003 x115004) else (if x115001 = 0 then (if x115002.toList = ([] : List UInt8) then (some false) else (some (x115003.toList == ([] : List UInt8)))) else (some false))
def boltingref04_Row.l1 : Nat → Int → Int → Int → Int → ByteArray → ByteArray → List (S41) → Option (Bool)
 | 0, _, _, _, _, _, _, _ => none
 | k + 1, x3, x4, x115000, x115001, x115002, x115003, x115004 => if x4 < x3 then (if 0 ≤ x3 then (if x3 < (x115004.length : Int) then (if 0 ≤ x4 then (if x4 < (x115004.length : Int) then (if ((rd_T41 x115004 x3).f0).toList = ((rd_T41 x115004 x4).f0).toList then (some false) else (boltingref04_Row.l1 k x3 (wrap64 (x4 + 1)) x115000 x115001 x115002 x115003 x115004)) else (none)) else (none)) else (none)) else (none)) else (boltingref04_Row.l0 k (wrap64 (x3 + 1)) x115000 x115001 x115002 x115003 x115004)
end
def boltingref04_Row.f (k : Nat) (a0_0 : Int) (a0_1 : Int) (a0_2 : ByteArray) (a0_3 : ByteArray) (l0_4 : List (S41)) : Option (Bool) := if a0_1 = 1 then (boltingref04_Row.j0 k true a0_0 a0_1 a0_2 a0_3 l0_4) else (boltingref04_Row.j0 k (a0_1 == 2) a0_0 a0_1 a0_2 a0_3 l0_4)
set_option maxHeartbeats 8000000 in
set_option maxRecDepth 100000 in
theorem boltingref04_Row.calls (k : Nat) (a0_0 : Int) (a0_1 : Int) (a0_2 : ByteArray) (a0_3 : ByteArray) (A0_4 : Option Addr) (c0_4 : Nat) (l0_4 : List (S41)) (r : Bool) (w : World) (hr0_4 : Kd.C k41 w A0_4 l0_4.length l0_4) (hc0_4 : l0_4.length ≤ c0_4) (h : boltingref04_Row.f k a0_0 a0_1 a0_2 a0_3 l0_4 = some r) :
  Calls Tryd.prog 18 #[.agg #[.int .i64 a0_0, .int .i64 a0_1, .string a0_2, .string a0_3, .slice A0_4 l0_4.length c0_4]] w fun e w' => e = .returned (.bool r) ∧ Below w.heap.size w w' := by
 have hu35 := Tryd.underlying35
 have HR0_4 := Aside0.mk hr0_4
 have HC0_4 := Aside0.mk hc0_4
 clear hr0_4 hc0_4
 have HB := Aside0.mk (Below.refl w.heap.size w)
 have H : (if a0_1 = 1 then (boltingref04_Row.j0 k true a0_0 a0_1 a0_2 a0_3 l0_4) else (boltingref04_Row.j0 k (a0_1 == 2) a0_0 a0_1 a0_2 a0_3 l0_4)) = some r := h
 clear h
 have HC2 := Aside0.mk H
 clear H
 go_enter Tryd.func18, Tryd.ntmps18
 go_upto_region 1 with (first | ((with_reducible refine gate_dst (N := 1) rfl ?_); (try (refine gate_guard (by rfl) ?_; dsimp only)); refine box_event ?hg (N := 1) ?hd (cs := #[.int .i64 a0_0, .int .i64 a0_1, .string a0_2, .string a0_3, .slice A0_4 l0_4.length c0_4]) (t := 35) ?hr ?_; (case hd => rfl); (case hg => rfl); (case hr => first | (go_simp; done) | (go_simp; rfl)); intro gb114 hg w3 hbox hb; have n0_ := Aside0.mk (below_step y13_ hb); have n1_ := Aside0.mk (hbox); have n2_ := Aside0.mk ((by rw [hg]; exact (below_size y13_) : w.heap.size ≤ gb114)); have n3_ := Aside0.mk ((by rw [hg]; exact (below_size y13_) : w.heap.size ≤ gb114)); clear HB; have HB := n0_; have BK114 := n1_; have GW114 := n2_; have GE114 := n3_; clear n0_ n1_ n2_ n3_; clear hb hbox hg))
 repeat (go_quiet (first | ((with_reducible refine gate_dst (N := 1) rfl ?_); (try (refine gate_guard (by rfl) ?_; dsimp only)); refine box_event ?hg (N := 1) ?hd (cs := #[.int .i64 a0_0, .int .i64 a0_1, .string a0_2, .string a0_3, .slice A0_4 l0_4.length c0_4]) (t := 35) ?hr ?_; (case hd => rfl); (case hg => rfl); (case hr => first | (go_simp; done) | (go_simp; rfl)); intro gb114 hg w3 hbox hb; have n0_ := Aside0.mk (below_step y13_ hb); have n1_ := Aside0.mk (hbox); have n2_ := Aside0.mk ((by rw [hg]; exact (below_size y13_) : w.heap.size ≤ gb114)); have n3_ := Aside0.mk ((by rw [hg]; exact (below_size y13_) : w.heap.size ≤ gb114)); clear HB; have HB := n0_; have BK114 := n1_; have GW114 := n2_; have GE114 := n3_; clear n0_ n1_ n2_ n3_; clear hb hbox hg)); go_upto_region 1 with (first | ((with_reducible refine gate_dst (N := 1) rfl ?_); (try (refine gate_guard (by rfl) ?_; dsimp only)); refine box_event ?hg (N := 1) ?hd (cs := #[.int .i64 a0_0, .int .i64 a0_1, .string a0_2, .string a0_3, .slice A0_4 l0_4.length c0_4]) (t := 35) ?hr ?_; (case hd => rfl); (case hg => rfl); (case hr => first | (go_simp; done) | (go_simp; rfl)); intro gb114 hg w3 hbox hb; have n0_ := Aside0.mk (below_step y13_ hb); have n1_ := Aside0.mk (hbox); have n2_ := Aside0.mk ((by rw [hg]; exact (below_size y13_) : w.heap.size ≤ gb114)); have n3_ := Aside0.mk ((by rw [hg]; exact (below_size y13_) : w.heap.size ≤ gb114)); clear HB; have HB := n0_; have BK114 := n1_; have GW114 := n2_; have GE114 := n3_; clear n0_ n1_ n2_ n3_; clear hb hbox hg)))
 (try simp only [Act.put, List.setIfInBounds_toArray, List.set_cons_zero, List.set_cons_succ])
 go_cut [12] (fun v12 wc => ∃ (kq : Nat) (x12_1 : Bool), v12 = .bool x12_1 ∧ Aside0 (boltingref04_Row.j0 kq x12_1 a0_0 a0_1 a0_2 a0_3 l0_4 = some r) ∧ Aside0 (kq ≤ k) ∧ Aside0 (wc.heap[gb114]? = some (.cells #[.int .i64 a0_0, .int .i64 a0_1, .string a0_2, .string a0_3, (.slice A0_4 l0_4.length c0_4)] 35 (0, 0))) ∧ Aside0 (Below w.heap.size w wc))
 case first =>
  have H := HC2.out
  clear HC2
  by_cases c4 : a0_1 = 1
  ·rw [if_pos c4] at H
   have c4b0 : (a0_1 == 1) = true := beq_iff_eq.mpr c4
   have c4b1 : (a0_1 != 1) = false := bne_eq_false_iff_eq.mpr c4
   clear c4
   (first | rw [c4b0] | (simp only [i64_w, i32_w]; rw [c4b0]) | skip)
   have H' := Aside0.mk H
   clear H
   have hcz5_0 : w3.cell? ⟨gb114, 0, none⟩ = some (.int .i64 a0_0) := (blk_cell BK114.out 0).trans rfl
   have hcz5_1 : w3.cell? ⟨gb114, 1, none⟩ = some (.int .i64 a0_1) := (blk_cell BK114.out 1).trans rfl
   have hcz5_2 : w3.cell? ⟨gb114, 2, none⟩ = some (.string a0_2) := (blk_cell BK114.out 2).trans rfl
   have hcz5_3 : w3.cell? ⟨gb114, 3, none⟩ = some (.string a0_3) := (blk_cell BK114.out 3).trans rfl
   have hcz5_4 : w3.cell? ⟨gb114, 4, none⟩ = some (.slice A0_4 l0_4.length c0_4) := (blk_cell BK114.out 4).trans rfl
   have hfz5_0 := blk_frozen BK114.out 0
   have hfz5_1 := blk_frozen BK114.out 1
   have hfz5_2 := blk_frozen BK114.out 2
   have hfz5_3 := blk_frozen BK114.out 3
   have hfz5_4 := blk_frozen BK114.out 4
   go_wp2
   repeat (go_quiet (fail); try go_wp2)
   go_meet
   case rel => exact ⟨_, (true), y4_, H', ⟨y1_⟩, ⟨by (with_reducible repeat (first | refine blk_drewN ?_ _ | refine blk_drew ?_ | refine blk_alloc ?_ _)); exact BK114.out⟩, ⟨(y19_ GE114.out)⟩⟩
  ·rw [if_neg c4] at H
   have c4b0 : (a0_1 == 1) = false := beq_eq_false_iff_ne.mpr c4
   have c4b1 : (a0_1 != 1) = true := bne_iff_ne.mpr c4
   (first | rw [c4b0] | (simp only [i64_w, i32_w]; rw [c4b0]) | skip)
   have H' := Aside0.mk H
   clear H
   have hcz6_0 : w3.cell? ⟨gb114, 0, none⟩ = some (.int .i64 a0_0) := (blk_cell BK114.out 0).trans rfl
   have hcz6_1 : w3.cell? ⟨gb114, 1, none⟩ = some (.int .i64 a0_1) := (blk_cell BK114.out 1).trans rfl
   have hcz6_2 : w3.cell? ⟨gb114, 2, none⟩ = some (.string a0_2) := (blk_cell BK114.out 2).trans rfl
   have hcz6_3 : w3.cell? ⟨gb114, 3, none⟩ = some (.string a0_3) := (blk_cell BK114.out 3).trans rfl
   have hcz6_4 : w3.cell? ⟨gb114, 4, none⟩ = some (.slice A0_4 l0_4.length c0_4) := (blk_cell BK114.out 4).trans rfl
   have hfz6_0 := blk_frozen BK114.out 0
   have hfz6_1 := blk_frozen BK114.out 1
   have hfz6_2 := blk_frozen BK114.out 2
   have hfz6_3 := blk_frozen BK114.out 3
   have hfz6_4 := blk_frozen BK114.out 4
   go_wp2
   repeat (go_quiet (fail); try go_wp2)
   go_meet
   case rel => exact ⟨_, ((a0_1 == 2)), y4_, H', ⟨y1_⟩, ⟨by (with_reducible repeat (first | refine blk_drewN ?_ _ | refine blk_drew ?_ | refine blk_alloc ?_ _)); exact BK114.out⟩, ⟨(y19_ GE114.out)⟩⟩
 case rest =>
  clear HC2
  try clear c1
  try clear p2
  try clear c4
  try clear c4b0
  try clear c4b1
  try clear hcz5_0
  try clear hcz5_1
  try clear hcz5_2
  try clear hcz5_3
  try clear hcz5_4
  try clear hcz6_0
  try clear hcz6_1
  try clear hcz6_2
  try clear hcz6_3
  try clear hcz6_4
  try clear hfz5_0
  try clear hfz5_1
  try clear hfz5_2
  try clear hfz5_3
  try clear hfz5_4
  try clear hfz6_0
  try clear hfz6_1
  try clear hfz6_2
  try clear hfz6_3
  try clear hfz6_4
  obtain ⟨kq, x12_1, rfl, HA, HJ1, BK114, HB⟩ := hcut
  cases kq with
  | zero => exact absurd HA.out (by simp [boltingref04_Row.j0])
  | succ kj1 =>
   have H := HA.out
   clear HA
   simp only [boltingref04_Row.j0] at H
   by_cases c7 : x12_1 = true
   ·subst c7
    rw [if_pos rfl] at H
    by_cases c8 : a0_2.toList = ([] : List UInt8)
    ·rw [if_pos c8] at H
     have c8b0 : (a0_2.toList == ([] : List UInt8)) = true := beq_iff_eq.mpr c8
     have c8b1 : (a0_2.toList != ([] : List UInt8)) = false := bne_eq_false_iff_eq.mpr c8
     clear c8
     obtain rfl := Option.some.inj H
     have hcz9_0 : wc.cell? ⟨gb114, 0, none⟩ = some (.int .i64 a0_0) := (blk_cell BK114.out 0).trans rfl
     have hcz9_1 : wc.cell? ⟨gb114, 1, none⟩ = some (.int .i64 a0_1) := (blk_cell BK114.out 1).trans rfl
     have hcz9_2 : wc.cell? ⟨gb114, 2, none⟩ = some (.string a0_2) := (blk_cell BK114.out 2).trans rfl
     have hcz9_3 : wc.cell? ⟨gb114, 3, none⟩ = some (.string a0_3) := (blk_cell BK114.out 3).trans rfl
     have hcz9_4 : wc.cell? ⟨gb114, 4, none⟩ = some (.slice A0_4 l0_4.length c0_4) := (blk_cell BK114.out 4).trans rfl
     have hfz9_0 := blk_frozen BK114.out 0
     have hfz9_1 := blk_frozen BK114.out 1
     have hfz9_2 := blk_frozen BK114.out 2
     have hfz9_3 := blk_frozen BK114.out 3
     have hfz9_4 := blk_frozen BK114.out 4
     go_wp2
     repeat (go_quiet (fail); try go_wp2)
     go_ret
     exact ⟨y12_, (y19_ GE114.out)⟩
    ·rw [if_neg c8] at H
     have c8b0 : (a0_2.toList == ([] : List UInt8)) = false := beq_eq_false_iff_ne.mpr c8
     have c8b1 : (a0_2.toList != ([] : List UInt8)) = true := bne_iff_ne.mpr c8
     obtain rfl := Option.some.inj H
     have hcz10_0 : wc.cell? ⟨gb114, 0, none⟩ = some (.int .i64 a0_0) := (blk_cell BK114.out 0).trans rfl
     have hcz10_1 : wc.cell? ⟨gb114, 1, none⟩ = some (.int .i64 a0_1) := (blk_cell BK114.out 1).trans rfl
     have hcz10_2 : wc.cell? ⟨gb114, 2, none⟩ = some (.string a0_2) := (blk_cell BK114.out 2).trans rfl
     have hcz10_3 : wc.cell? ⟨gb114, 3, none⟩ = some (.string a0_3) := (blk_cell BK114.out 3).trans rfl
     have hcz10_4 : wc.cell? ⟨gb114, 4, none⟩ = some (.slice A0_4 l0_4.length c0_4) := (blk_cell BK114.out 4).trans rfl
     have hfz10_0 := blk_frozen BK114.out 0
     have hfz10_1 := blk_frozen BK114.out 1
     have hfz10_2 := blk_frozen BK114.out 2
     have hfz10_3 := blk_frozen BK114.out 3
     have hfz10_4 := blk_frozen BK114.out 4
     go_wp2
     repeat (go_quiet (fail); try go_wp2)
     go_ret
     exact ⟨y12_, (y19_ GE114.out)⟩
   ·replace c7 := Bool.eq_false_iff.mpr c7
    subst c7
    rw [if_neg (show ¬ (false = true) by decide)] at H
    have H' := Aside0.mk H
    clear H
    go_wp2
    repeat (go_quiet (fail); try go_wp2)
    go_loopg [3] kj1 (fun kq v3 w' => ∃ (x3_2 : Int), v3 = .int .i64 x3_2 ∧ Aside0 (boltingref04_Row.l0 kq x3_2 a0_0 a0_1 a0_2 a0_3 l0_4 = some r) ∧ Aside0 (kq ≤ kj1) ∧ Aside0 (w'.heap[gb114]? = some (.cells #[.int .i64 a0_0, .int .i64 a0_1, .string a0_2, .string a0_3, (.slice A0_4 l0_4.length c0_4)] 35 (0, 0))) ∧ Aside0 (Below w.heap.size w w'))
    case atStart => exact ⟨(0), y4_, H', ⟨Nat.le_refl _⟩, ⟨by (with_reducible repeat (first | refine blk_drewN ?_ _ | refine blk_drew ?_ | refine blk_alloc ?_ _)); exact BK114.out⟩, ⟨(y19_ GE114.out)⟩⟩
    case round =>
     clear H'
     try clear c1
     try clear p2
     try clear c4
     try clear c4b0
     try clear c4b1
     try clear c7
     try clear c8
     try clear c8b0
     try clear c8b1
     try clear hcz10_0
     try clear hcz10_1
     try clear hcz10_2
     try clear hcz10_3
     try clear hcz10_4
     try clear hcz5_0
     try clear hcz5_1
     try clear hcz5_2
     try clear hcz5_3
     try clear hcz5_4
     try clear hcz6_0
     try clear hcz6_1
     try clear hcz6_2
     try clear hcz6_3
     try clear hcz6_4
     try clear hcz9_0
     try clear hcz9_1
     try clear hcz9_2
     try clear hcz9_3
     try clear hcz9_4
     try clear hfz10_0
     try clear hfz10_1
     try clear hfz10_2
     try clear hfz10_3
     try clear hfz10_4
     try clear hfz5_0
     try clear hfz5_1
     try clear hfz5_2
     try clear hfz5_3
     try clear hfz5_4
     try clear hfz6_0
     try clear hfz6_1
     try clear hfz6_2
     try clear hfz6_3
     try clear hfz6_4
     try clear hfz9_0
     try clear hfz9_1
     try clear hfz9_2
     try clear hfz9_3
     try clear hfz9_4
     try clear p2
     obtain ⟨x3_2, rfl, HA, HK2, BK114, HB⟩ := hrel
     cases gk with
     | zero => exact absurd HA.out (by simp [boltingref04_Row.l0])
     | succ k2 =>
      have H := HA.out
      clear HA
      simp only [boltingref04_Row.l0] at H
      by_cases c11 : x3_2 < (l0_4.length : Int)
      ·rw [if_pos c11] at H
       have c11b0 : decide (x3_2 < (l0_4.length : Int)) = true := decide_eq_true c11
       clear c11
       have H' := Aside0.mk H
       clear H
       have hcz12_0 : wr.cell? ⟨gb114, 0, none⟩ = some (.int .i64 a0_0) := (blk_cell BK114.out 0).trans rfl
       have hcz12_1 : wr.cell? ⟨gb114, 1, none⟩ = some (.int .i64 a0_1) := (blk_cell BK114.out 1).trans rfl
       have hcz12_2 : wr.cell? ⟨gb114, 2, none⟩ = some (.string a0_2) := (blk_cell BK114.out 2).trans rfl
       have hcz12_3 : wr.cell? ⟨gb114, 3, none⟩ = some (.string a0_3) := (blk_cell BK114.out 3).trans rfl
       have hcz12_4 : wr.cell? ⟨gb114, 4, none⟩ = some (.slice A0_4 l0_4.length c0_4) := (blk_cell BK114.out 4).trans rfl
       have hfz12_0 := blk_frozen BK114.out 0
       have hfz12_1 := blk_frozen BK114.out 1
       have hfz12_2 := blk_frozen BK114.out 2
       have hfz12_3 := blk_frozen BK114.out 3
       have hfz12_4 := blk_frozen BK114.out 4
       go_wp2
       repeat (go_quiet (fail); try go_wp2)
       go_loopg [4] k2 (fun kq v4 w' => ∃ (x4_3 : Int), v4 = .int .i64 x4_3 ∧ Aside0 (boltingref04_Row.l1 kq x3_2 x4_3 a0_0 a0_1 a0_2 a0_3 l0_4 = some r) ∧ Aside0 (kq ≤ k2) ∧ Aside0 (w'.heap[gb114]? = some (.cells #[.int .i64 a0_0, .int .i64 a0_1, .string a0_2, .string a0_3, (.slice A0_4 l0_4.length c0_4)] 35 (0, 0))) ∧ Aside0 (Below w.heap.size w w'))
       case atStart => exact ⟨(0), y4_, H', ⟨Nat.le_refl _⟩, ⟨by (with_reducible repeat (first | refine blk_drewN ?_ _ | refine blk_drew ?_ | refine blk_alloc ?_ _)); exact BK114.out⟩, ⟨(y19_ GE114.out)⟩⟩
       case round =>
        clear H'
        try clear c1
        try clear p2
        try clear c4
        try clear c4b0
        try clear c4b1
        try clear c7
        try clear c8
        try clear c8b0
        try clear c8b1
        try clear c11
        try clear c11b0
        try clear hcz10_0
        try clear hcz10_1
        try clear hcz10_2
        try clear hcz10_3
        try clear hcz10_4
        try clear hcz12_0
        try clear hcz12_1
        try clear hcz12_2
        try clear hcz12_3
        try clear hcz12_4
        try clear hcz5_0
        try clear hcz5_1
        try clear hcz5_2
        try clear hcz5_3
        try clear hcz5_4
        try clear hcz6_0
        try clear hcz6_1
        try clear hcz6_2
        try clear hcz6_3
        try clear hcz6_4
        try clear hcz9_0
        try clear hcz9_1
        try clear hcz9_2
        try clear hcz9_3
        try clear hcz9_4
        try clear hfz10_0
        try clear hfz10_1
        try clear hfz10_2
        try clear hfz10_3
        try clear hfz10_4
        try clear hfz12_0
        try clear hfz12_1
        try clear hfz12_2
        try clear hfz12_3
        try clear hfz12_4
        try clear hfz5_0
        try clear hfz5_1
        try clear hfz5_2
        try clear hfz5_3
        try clear hfz5_4
        try clear hfz6_0
        try clear hfz6_1
        try clear hfz6_2
        try clear hfz6_3
        try clear hfz6_4
        try clear hfz9_0
        try clear hfz9_1
        try clear hfz9_2
        try clear hfz9_3
        try clear hfz9_4
        try clear p2
        obtain ⟨x4_3, rfl, HA, HK3, BK114, HB⟩ := hrel
        cases gk with
        | zero => exact absurd HA.out (by simp [boltingref04_Row.l1])
        | succ k3 =>
         have H := HA.out
         clear HA
         simp only [boltingref04_Row.l1] at H
         by_cases c13 : x4_3 < x3_2
         ·rw [if_pos c13] at H
          have c13b0 : decide (x4_3 < x3_2) = true := decide_eq_true c13
          clear c13
          by_cases c14 : 0 ≤ x3_2
          rotate_left
          ·rw [if_neg c14] at H
           exact absurd H (by simp)
          rw [if_pos c14] at H
          have c14b0 : decide (0 ≤ x3_2) = true := decide_eq_true c14
          clear c14
          by_cases c15 : x3_2 < (l0_4.length : Int)
          rotate_left
          ·rw [if_neg c15] at H
           exact absurd H (by simp)
          rw [if_pos c15] at H
          have c15b0 : decide (x3_2 < (l0_4.length : Int)) = true := decide_eq_true c15
          clear c15
          by_cases c16 : 0 ≤ x4_3
          rotate_left
          ·rw [if_neg c16] at H
           exact absurd H (by simp)
          rw [if_pos c16] at H
          have c16b0 : decide (0 ≤ x4_3) = true := decide_eq_true c16
          clear c16
          by_cases c17 : x4_3 < (l0_4.length : Int)
          rotate_left
          ·rw [if_neg c17] at H
           exact absurd H (by simp)
          rw [if_pos c17] at H
          have c17b0 : decide (x4_3 < (l0_4.length : Int)) = true := decide_eq_true c17
          clear c17
          by_cases c18 : ((rd_T41 l0_4 x3_2).f0).toList = ((rd_T41 l0_4 x4_3).f0).toList
          ·rw [if_pos c18] at H
           have c18b0 : (((rd_T41 l0_4 x3_2).f0).toList == ((rd_T41 l0_4 x4_3).f0).toList) = true := beq_iff_eq.mpr c18
           have c18b1 : (((rd_T41 l0_4 x3_2).f0).toList != ((rd_T41 l0_4 x4_3).f0).toList) = false := bne_eq_false_iff_eq.mpr c18
           clear c18
           obtain rfl := Option.some.inj H
           have hcz19_0 : wr.cell? ⟨gb114, 0, none⟩ = some (.int .i64 a0_0) := (blk_cell BK114.out 0).trans rfl
           have hcz19_1 : wr.cell? ⟨gb114, 1, none⟩ = some (.int .i64 a0_1) := (blk_cell BK114.out 1).trans rfl
           have hcz19_2 : wr.cell? ⟨gb114, 2, none⟩ = some (.string a0_2) := (blk_cell BK114.out 2).trans rfl
           have hcz19_3 : wr.cell? ⟨gb114, 3, none⟩ = some (.string a0_3) := (blk_cell BK114.out 3).trans rfl
           have hcz19_4 : wr.cell? ⟨gb114, 4, none⟩ = some (.slice A0_4 l0_4.length c0_4) := (blk_cell BK114.out 4).trans rfl
           have hfz19_0 := blk_frozen BK114.out 0
           have hfz19_1 := blk_frozen BK114.out 1
           have hfz19_2 := blk_frozen BK114.out 2
           have hfz19_3 := blk_frozen BK114.out 3
           have hfz19_4 := blk_frozen BK114.out 4
           have p115 : 0 ≤ (x3_2 : Int) := of_decide_eq_true y2_
           have q115 : x3_2 < (l0_4.length : Int) := of_decide_eq_true y2_
           obtain ⟨ad115, e115, hx115_0, hx115_1⟩ := at_T41 HR0_4.out x3_2 p115 q115
           cases e115
           replace hx115_0 := (HB.out.cell (World.block_lt_of_cell? w _ hx115_0)).trans hx115_0
           replace hx115_1 := (HB.out.cell (World.block_lt_of_cell? w _ hx115_1)).trans hx115_1
           replace p115 := eq_true p115
           replace q115 := eq_true q115
           have p116 : 0 ≤ (x4_3 : Int) := of_decide_eq_true y2_
           have q116 : x4_3 < (l0_4.length : Int) := of_decide_eq_true y2_
           obtain ⟨ad116, e116, hx116_0, hx116_1⟩ := at_T41 HR0_4.out x4_3 p116 q116
           obtain rfl : ad115 = ad116 := (by injection e116)
           replace hx116_0 := (HB.out.cell (World.block_lt_of_cell? w _ hx116_0)).trans hx116_0
           replace hx116_1 := (HB.out.cell (World.block_lt_of_cell? w _ hx116_1)).trans hx116_1
           replace p116 := eq_true p116
           replace q116 := eq_true q116
           go_wp2
           repeat (go_quiet (fail); try go_wp2)
           go_ret
           exact ⟨y12_, (y19_ GE114.out)⟩
          ·rw [if_neg c18] at H
           have c18b0 : (((rd_T41 l0_4 x3_2).f0).toList == ((rd_T41 l0_4 x4_3).f0).toList) = false := beq_eq_false_iff_ne.mpr c18
           have c18b1 : (((rd_T41 l0_4 x3_2).f0).toList != ((rd_T41 l0_4 x4_3).f0).toList) = true := bne_iff_ne.mpr c18
           have H' := Aside0.mk H
           clear H
           have hcz20_0 : wr.cell? ⟨gb114, 0, none⟩ = some (.int .i64 a0_0) := (blk_cell BK114.out 0).trans rfl
           have hcz20_1 : wr.cell? ⟨gb114, 1, none⟩ = some (.int .i64 a0_1) := (blk_cell BK114.out 1).trans rfl
           have hcz20_2 : wr.cell? ⟨gb114, 2, none⟩ = some (.string a0_2) := (blk_cell BK114.out 2).trans rfl
           have hcz20_3 : wr.cell? ⟨gb114, 3, none⟩ = some (.string a0_3) := (blk_cell BK114.out 3).trans rfl
           have hcz20_4 : wr.cell? ⟨gb114, 4, none⟩ = some (.slice A0_4 l0_4.length c0_4) := (blk_cell BK114.out 4).trans rfl
           have hfz20_0 := blk_frozen BK114.out 0
           have hfz20_1 := blk_frozen BK114.out 1
           have hfz20_2 := blk_frozen BK114.out 2
           have hfz20_3 := blk_frozen BK114.out 3
           have hfz20_4 := blk_frozen BK114.out 4
           have p115 : 0 ≤ (x3_2 : Int) := of_decide_eq_true y2_
           have q115 : x3_2 < (l0_4.length : Int) := of_decide_eq_true y2_
           obtain ⟨ad115, e115, hx115_0, hx115_1⟩ := at_T41 HR0_4.out x3_2 p115 q115
           cases e115
           replace hx115_0 := (HB.out.cell (World.block_lt_of_cell? w _ hx115_0)).trans hx115_0
           replace hx115_1 := (HB.out.cell (World.block_lt_of_cell? w _ hx115_1)).trans hx115_1
           replace p115 := eq_true p115
           replace q115 := eq_true q115
           have p116 : 0 ≤ (x4_3 : Int) := of_decide_eq_true y2_
           have q116 : x4_3 < (l0_4.length : Int) := of_decide_eq_true y2_
           obtain ⟨ad116, e116, hx116_0, hx116_1⟩ := at_T41 HR0_4.out x4_3 p116 q116
           obtain rfl : ad115 = ad116 := (by injection e116)
           replace hx116_0 := (HB.out.cell (World.block_lt_of_cell? w _ hx116_0)).trans hx116_0
           replace hx116_1 := (HB.out.cell (World.block_lt_of_cell? w _ hx116_1)).trans hx116_1
           replace p116 := eq_true p116
           replace q116 := eq_true q116
           go_wp2
           repeat (go_quiet (fail); try go_wp2)
           go_roundg k3
           case measure => have := HJ1.out; have := HK2.out; have := HK3.out; omega
           case rel => exact ⟨(wrap64 (x4_3 + 1)), y4_, H', ⟨by have := HJ1.out; have := HK2.out; have := HK3.out; omega⟩, ⟨by (with_reducible repeat (first | refine blk_drewN ?_ _ | refine blk_drew ?_ | refine blk_alloc ?_ _)); exact BK114.out⟩, ⟨(y19_ GE114.out)⟩⟩
         ·rw [if_neg c13] at H
          have c13b0 : decide (x4_3 < x3_2) = false := decide_eq_false c13
          clear c13
          have H' := Aside0.mk H
          clear H
          go_wp2
          repeat (go_quiet (fail); try go_wp2)
          go_roundg k3
          case measure => have := HJ1.out; have := HK2.out; have := HK3.out; omega
          case rel => exact ⟨(wrap64 (x3_2 + 1)), y4_, H', ⟨by have := HJ1.out; have := HK2.out; have := HK3.out; omega⟩, ⟨by (with_reducible repeat (first | refine blk_drewN ?_ _ | refine blk_drew ?_ | refine blk_alloc ?_ _)); exact BK114.out⟩, ⟨(y19_ GE114.out)⟩⟩
      ·rw [if_neg c11] at H
       have c11b0 : decide (x3_2 < (l0_4.length : Int)) = false := decide_eq_false c11
       clear c11
       by_cases c21 : a0_1 = 0
       ·rw [if_pos c21] at H
        have c21b0 : (a0_1 == 0) = true := beq_iff_eq.mpr c21
        have c21b1 : (a0_1 != 0) = false := bne_eq_false_iff_eq.mpr c21
        clear c21
        by_cases c22 : a0_2.toList = ([] : List UInt8)
        ·rw [if_pos c22] at H
         have c22b0 : (a0_2.toList == ([] : List UInt8)) = true := beq_iff_eq.mpr c22
         have c22b1 : (a0_2.toList != ([] : List UInt8)) = false := bne_eq_false_iff_eq.mpr c22
         clear c22
         obtain rfl := Option.some.inj H
         have hcz23_0 : wr.cell? ⟨gb114, 0, none⟩ = some (.int .i64 a0_0) := (blk_cell BK114.out 0).trans rfl
         have hcz23_1 : wr.cell? ⟨gb114, 1, none⟩ = some (.int .i64 a0_1) := (blk_cell BK114.out 1).trans rfl
         have hcz23_2 : wr.cell? ⟨gb114, 2, none⟩ = some (.string a0_2) := (blk_cell BK114.out 2).trans rfl
         have hcz23_3 : wr.cell? ⟨gb114, 3, none⟩ = some (.string a0_3) := (blk_cell BK114.out 3).trans rfl
         have hcz23_4 : wr.cell? ⟨gb114, 4, none⟩ = some (.slice A0_4 l0_4.length c0_4) := (blk_cell BK114.out 4).trans rfl
         have hfz23_0 := blk_frozen BK114.out 0
         have hfz23_1 := blk_frozen BK114.out 1
         have hfz23_2 := blk_frozen BK114.out 2
         have hfz23_3 := blk_frozen BK114.out 3
         have hfz23_4 := blk_frozen BK114.out 4
         go_wp2
         repeat (go_quiet (fail); try go_wp2)
         go_ret
         exact ⟨y12_, (y19_ GE114.out)⟩
        ·rw [if_neg c22] at H
         have c22b0 : (a0_2.toList == ([] : List UInt8)) = false := beq_eq_false_iff_ne.mpr c22
         have c22b1 : (a0_2.toList != ([] : List UInt8)) = true := bne_iff_ne.mpr c22
         obtain rfl := Option.some.inj H
         have hcz24_0 : wr.cell? ⟨gb114, 0, none⟩ = some (.int .i64 a0_0) := (blk_cell BK114.out 0).trans rfl
         have hcz24_1 : wr.cell? ⟨gb114, 1, none⟩ = some (.int .i64 a0_1) := (blk_cell BK114.out 1).trans rfl
         have hcz24_2 : wr.cell? ⟨gb114, 2, none⟩ = some (.string a0_2) := (blk_cell BK114.out 2).trans rfl
         have hcz24_3 : wr.cell? ⟨gb114, 3, none⟩ = some (.string a0_3) := (blk_cell BK114.out 3).trans rfl
         have hcz24_4 : wr.cell? ⟨gb114, 4, none⟩ = some (.slice A0_4 l0_4.length c0_4) := (blk_cell BK114.out 4).trans rfl
         have hfz24_0 := blk_frozen BK114.out 0
         have hfz24_1 := blk_frozen BK114.out 1
         have hfz24_2 := blk_frozen BK114.out 2
         have hfz24_3 := blk_frozen BK114.out 3
         have hfz24_4 := blk_frozen BK114.out 4
         go_wp2
         repeat (go_quiet (fail); try go_wp2)
         go_ret
         exact ⟨y12_, (y19_ GE114.out)⟩
       ·rw [if_neg c21] at H
        have c21b0 : (a0_1 == 0) = false := beq_eq_false_iff_ne.mpr c21
        have c21b1 : (a0_1 != 0) = true := bne_iff_ne.mpr c21
        obtain rfl := Option.some.inj H
        have hcz25_0 : wr.cell? ⟨gb114, 0, none⟩ = some (.int .i64 a0_0) := (blk_cell BK114.out 0).trans rfl
        have hcz25_1 : wr.cell? ⟨gb114, 1, none⟩ = some (.int .i64 a0_1) := (blk_cell BK114.out 1).trans rfl
        have hcz25_2 : wr.cell? ⟨gb114, 2, none⟩ = some (.string a0_2) := (blk_cell BK114.out 2).trans rfl
        have hcz25_3 : wr.cell? ⟨gb114, 3, none⟩ = some (.string a0_3) := (blk_cell BK114.out 3).trans rfl
        have hcz25_4 : wr.cell? ⟨gb114, 4, none⟩ = some (.slice A0_4 l0_4.length c0_4) := (blk_cell BK114.out 4).trans rfl
        have hfz25_0 := blk_frozen BK114.out 0
        have hfz25_1 := blk_frozen BK114.out 1
        have hfz25_2 := blk_frozen BK114.out 2
        have hfz25_3 := blk_frozen BK114.out 3
        have hfz25_4 := blk_frozen BK114.out 4
        go_wp2
        repeat (go_quiet (fail); try go_wp2)
        go_ret
        exact ⟨y12_, (y19_ GE114.out)⟩
end Go.Proofs.YtpnhjipaeggcpaaDoor.X
end
section
namespace Go.Proofs.YtpnhjipaeggcpaaDoor.X
open Go.RowKit Go.Proofs.YtpnhjipaeggcpaaDoorW.PrintWords Go.Proofs.YtpnhjipaeggcpaaDoorW.PrintLast Go.Proofs.YtpnhjipaeggcpaaDoorW.PrintMore
attribute [local go_sem] max2_int min2_int max_two min_two max_three min_three max_four min_four
mutual
def boltingref04_Right.l0 : Nat → List (S35) → Int → Option (Bool)
 | 0, _, _ => none
 | k + 1, x0, x3 => if x3 < (x0.length : Int) then (if 0 ≤ x3 then ((boltingref04_Row.f k ((rd_T35 x0 x3).f0) ((rd_T35 x0 x3).f1) ((rd_T35 x0 x3).f2) ((rd_T35 x0 x3).f3) ((rd_T35 x0 x3).f4)).bind fun t119 => (if t119 = true then (if ((rd_T35 x0 x3).f0) < 0 then (boltingref04_Right.j1 k x0 x3 ((rd_T35 x0 x3).f0) true) else (if x3 = 0 then (boltingref04_Right.j1 k x0 x3 ((rd_T35 x0 x3).f0) (((rd_T35 x0 x3).f0) != 0)) else (boltingref04_Right.j1 k x0 x3 ((rd_T35 x0 x3).f0) false))) else (boltingref04_Right.j1 k x0 x3 ((rd_T35 x0 x3).f0) true))) else (none)) else (some true)
def boltingref04_Right.j1 : Nat → List (S35) → Int → Int → Bool → Option (Bool)
 | 0, _, _, _, _ => none
 | k + 1, x0, x3, x4, x33 => if x33 = true then (some false) else (if x3 > 0 then (if 0 ≤ (wrap64 (x3 - 1)) then (if (wrap64 (x3 - 1)) < (x0.length : Int) then (if x4 > (wrap64 (((rd_T35 x0 (wrap64 (x3 - 1))).f0) + 1)) then (some false) else (if x4 = (wrap64 (((rd_T35 x0 (wrap64 (x3 - 1))).f0) + 1)) then (if ((rd_T35 x0 (wrap64 (x3 - 1))).f1) = 0 then (boltingref04_Right.l0 k x0 (wrap64 (x3 + 1))) else (some false)) else (boltingref04_Right.l0 k x0 (wrap64 (x3 + 1))))) else (none)) else (none)) else (boltingref04_Right.l0 k x0 (wrap64 (x3 + 1))))
end
def boltingref04_Right.f (k : Nat) (l0 : List (S35)) : Option (Bool) := boltingref04_Right.l0 k l0 0
set_option maxHeartbeats 8000000 in
set_option maxRecDepth 100000 in
theorem boltingref04_Right.calls (k : Nat) (A0 : Option Addr) (c0 : Nat) (l0 : List (S35)) (r : Bool) (w : World) (hr0 : Kd.C k35 w A0 l0.length l0) (hc0 : l0.length ≤ c0) (h : boltingref04_Right.f k l0 = some r) :
  Calls Tryd.prog 7 #[.slice A0 l0.length c0] w fun e w' => e = .returned (.bool r) ∧ Below w.heap.size w w' := by
 have hu35 := Tryd.underlying35
 have HR0 := Aside0.mk hr0
 have HC0 := Aside0.mk hc0
 clear hr0 hc0
 have HB := Aside0.mk (Below.refl w.heap.size w)
 have H : (boltingref04_Right.l0 k l0 0) = some r := h
 clear h
 have H' := Aside0.mk H
 clear H
 go_enter Tryd.func7, Tryd.ntmps7
 go_wp2
 go_loopg [3] k (fun kq v3 w' => ∃ (x3_1 : Int), v3 = .int .i64 x3_1 ∧ Aside0 (boltingref04_Right.l0 kq l0 x3_1 = some r) ∧ Aside0 (kq ≤ k) ∧ Aside0 (Below w.heap.size w w'))
 case atStart => exact ⟨(0), y4_, H', ⟨Nat.le_refl _⟩, ⟨y13_⟩⟩
 case round =>
  clear H'
  obtain ⟨x3_1, rfl, HA, HK1, HB⟩ := hrel
  cases gk with
  | zero => exact absurd HA.out (by simp [boltingref04_Right.l0])
  | succ k1 =>
   have H := HA.out
   clear HA
   simp only [boltingref04_Right.l0] at H
   by_cases c2 : x3_1 < (l0.length : Int)
   ·rw [if_pos c2] at H
    have c2b0 : decide (x3_1 < (l0.length : Int)) = true := decide_eq_true c2
    clear c2
    by_cases c3 : 0 ≤ x3_1
    rotate_left
    ·rw [if_neg c3] at H
     exact absurd H (by simp)
    rw [if_pos c3] at H
    have c3b0 : decide (0 ≤ x3_1) = true := decide_eq_true c3
    clear c3
    have HC4 := Aside0.mk H
    clear H
    have p117 : 0 ≤ (x3_1 : Int) := of_decide_eq_true y2_
    have q117 : x3_1 < (l0.length : Int) := of_decide_eq_true y2_
    obtain ⟨ad117, A117_4, c117_4, e117, hx117_0, hx117_1, hx117_2, hx117_3, hx117_4, hl117_4, hi117_4⟩ := at_T35 HR0.out x3_1 p117 q117
    cases e117
    replace hx117_0 := (HB.out.cell (World.block_lt_of_cell? w _ hx117_0)).trans hx117_0
    replace hx117_1 := (HB.out.cell (World.block_lt_of_cell? w _ hx117_1)).trans hx117_1
    replace hx117_2 := (HB.out.cell (World.block_lt_of_cell? w _ hx117_2)).trans hx117_2
    replace hx117_3 := (HB.out.cell (World.block_lt_of_cell? w _ hx117_3)).trans hx117_3
    replace hx117_4 := (HB.out.cell (World.block_lt_of_cell? w _ hx117_4)).trans hx117_4
    have HR117_4 := Aside0.mk hi117_4
    have HC117_4 := Aside0.mk hl117_4
    clear hi117_4 hl117_4
    replace p117 := eq_true p117
    replace q117 := eq_true q117
    go_upto_region 5 with (fail)
    go_cut [33] (fun v33 wc => ∃ (kq : Nat) (x33_3 : Bool), v33 = .bool x33_3 ∧ Aside0 (boltingref04_Right.j1 kq l0 x3_1 ((rd_T35 l0 x3_1).f0) x33_3 = some r) ∧ Aside0 (kq ≤ k1) ∧ Aside0 (Below w.heap.size w wc))
    case first =>
     have H := HC4.out
     clear HC4
     replace H := Option.bind_eq_some_iff.mp H
     obtain ⟨t119, A50, H⟩ := H
     have A5 := Aside0.mk A50
     clear A50
     by_cases c6 : t119 = true
     ·subst c6
      rw [if_pos rfl] at H
      by_cases c7 : ((rd_T35 l0 x3_1).f0) < 0
      ·rw [if_pos c7] at H
       have c7b0 : decide (((rd_T35 l0 x3_1).f0) < 0) = true := decide_eq_true c7
       clear c7
       (first | rw [c7b0] | (simp only [i64_w, i32_w]; rw [c7b0]) | skip)
       have H' := Aside0.mk H
       clear H
       have p118 : 0 ≤ (x3_1 : Int) := of_decide_eq_true y2_
       have q118 : x3_1 < (l0.length : Int) := of_decide_eq_true y2_
       obtain ⟨ad118, A118_4, c118_4, e118, hx118_0, hx118_1, hx118_2, hx118_3, hx118_4, hl118_4, hi118_4⟩ := at_T35 HR0.out x3_1 p118 q118
       obtain rfl : ad117 = ad118 := (by injection e118)
       replace hx118_0 := (HB.out.cell (World.block_lt_of_cell? w _ hx118_0)).trans hx118_0
       replace hx118_1 := (HB.out.cell (World.block_lt_of_cell? w _ hx118_1)).trans hx118_1
       replace hx118_2 := (HB.out.cell (World.block_lt_of_cell? w _ hx118_2)).trans hx118_2
       replace hx118_3 := (HB.out.cell (World.block_lt_of_cell? w _ hx118_3)).trans hx118_3
       replace hx118_4 := (HB.out.cell (World.block_lt_of_cell? w _ hx118_4)).trans hx118_4
       try (have e_ := Option.some.inj (hx117_4.symm.trans hx118_4); injection e_ with ea_ eb_ ec_; rw [ea_, ec_] at hx117_4; clear ea_ eb_ ec_)
       have HR118_4 := Aside0.mk hi118_4
       have HC118_4 := Aside0.mk hl118_4
       clear hi118_4 hl118_4
       replace p118 := eq_true p118
       replace q118 := eq_true q118
       go_wp2_with (first | ((with_reducible refine gate_callee (f := 18) rfl ?_); refine goesL_ (some 20) rfl rfl Tryd.func18 (by kernel_rfl) rfl #[.agg #[.int .i64 ((rd_T35 l0 x3_1).f0), .int .i64 ((rd_T35 l0 x3_1).f1), .string ((rd_T35 l0 x3_1).f2), .string ((rd_T35 l0 x3_1).f3), .slice A118_4 ((rd_T35 l0 x3_1).f4).length c118_4]] rfl y14_ ?_; (with_reducible refine (boltingref04_Row.calls k1 ((rd_T35 l0 x3_1).f0) ((rd_T35 l0 x3_1).f1) ((rd_T35 l0 x3_1).f2) ((rd_T35 l0 x3_1).f3) _ _ ((rd_T35 l0 x3_1).f4) true _ ?side1 ?side2 A5.out).mono ?_); (case side1 => repeat (first | exact (Kd.C_below HR118_4.out HB.out) | (with_reducible refine Kd.C_alloc ?_ _) | (with_reducible refine Kd.C_drewN ?_ _) | (with_reducible refine Kd.C_drew ?_))); (case side2 => exact HC118_4.out); rintro e w8 ⟨rfl, hb⟩; refine ⟨_, rfl, ?_⟩; have n0_ := Aside0.mk (below_step y13_ hb); clear HB; have HB := n0_; clear n0_; (try clear hb); (try clear hb2); (try clear hk); (try clear hi)))
       go_meet
       case rel => exact ⟨_, (true), y4_, H', ⟨by have := HK1.out; first | omega | exact Nat.le_refl _⟩, ⟨y13_⟩⟩
      ·rw [if_neg c7] at H
       have c7b0 : decide (((rd_T35 l0 x3_1).f0) < 0) = false := decide_eq_false c7
       clear c7
       (first | rw [c7b0] | (simp only [i64_w, i32_w]; rw [c7b0]) | skip)
       by_cases c9 : x3_1 = 0
       ·rw [if_pos c9] at H
        have c9b0 : (x3_1 == 0) = true := beq_iff_eq.mpr c9
        have c9b1 : (x3_1 != 0) = false := bne_eq_false_iff_eq.mpr c9
        clear c9
        have H' := Aside0.mk H
        clear H
        have p118 : 0 ≤ (x3_1 : Int) := of_decide_eq_true y2_
        have q118 : x3_1 < (l0.length : Int) := of_decide_eq_true y2_
        obtain ⟨ad118, A118_4, c118_4, e118, hx118_0, hx118_1, hx118_2, hx118_3, hx118_4, hl118_4, hi118_4⟩ := at_T35 HR0.out x3_1 p118 q118
        obtain rfl : ad117 = ad118 := (by injection e118)
        replace hx118_0 := (HB.out.cell (World.block_lt_of_cell? w _ hx118_0)).trans hx118_0
        replace hx118_1 := (HB.out.cell (World.block_lt_of_cell? w _ hx118_1)).trans hx118_1
        replace hx118_2 := (HB.out.cell (World.block_lt_of_cell? w _ hx118_2)).trans hx118_2
        replace hx118_3 := (HB.out.cell (World.block_lt_of_cell? w _ hx118_3)).trans hx118_3
        replace hx118_4 := (HB.out.cell (World.block_lt_of_cell? w _ hx118_4)).trans hx118_4
        try (have e_ := Option.some.inj (hx117_4.symm.trans hx118_4); injection e_ with ea_ eb_ ec_; rw [ea_, ec_] at hx117_4; clear ea_ eb_ ec_)
        have HR118_4 := Aside0.mk hi118_4
        have HC118_4 := Aside0.mk hl118_4
        clear hi118_4 hl118_4
        replace p118 := eq_true p118
        replace q118 := eq_true q118
        go_wp2_with (first | ((with_reducible refine gate_callee (f := 18) rfl ?_); refine goesL_ (some 20) rfl rfl Tryd.func18 (by kernel_rfl) rfl #[.agg #[.int .i64 ((rd_T35 l0 x3_1).f0), .int .i64 ((rd_T35 l0 x3_1).f1), .string ((rd_T35 l0 x3_1).f2), .string ((rd_T35 l0 x3_1).f3), .slice A118_4 ((rd_T35 l0 x3_1).f4).length c118_4]] rfl y14_ ?_; (with_reducible refine (boltingref04_Row.calls k1 ((rd_T35 l0 x3_1).f0) ((rd_T35 l0 x3_1).f1) ((rd_T35 l0 x3_1).f2) ((rd_T35 l0 x3_1).f3) _ _ ((rd_T35 l0 x3_1).f4) true _ ?side1 ?side2 A5.out).mono ?_); (case side1 => repeat (first | exact (Kd.C_below HR118_4.out HB.out) | (with_reducible refine Kd.C_alloc ?_ _) | (with_reducible refine Kd.C_drewN ?_ _) | (with_reducible refine Kd.C_drew ?_))); (case side2 => exact HC118_4.out); rintro e w10 ⟨rfl, hb⟩; refine ⟨_, rfl, ?_⟩; have n0_ := Aside0.mk (below_step y13_ hb); clear HB; have HB := n0_; clear n0_; (try clear hb); (try clear hb2); (try clear hk); (try clear hi)))
        go_meet
        case rel => exact ⟨_, ((((rd_T35 l0 x3_1).f0) != 0)), y4_, H', ⟨by have := HK1.out; first | omega | exact Nat.le_refl _⟩, ⟨y13_⟩⟩
       ·rw [if_neg c9] at H
        have c9b0 : (x3_1 == 0) = false := beq_eq_false_iff_ne.mpr c9
        have c9b1 : (x3_1 != 0) = true := bne_iff_ne.mpr c9
        have H' := Aside0.mk H
        clear H
        have p118 : 0 ≤ (x3_1 : Int) := of_decide_eq_true y2_
        have q118 : x3_1 < (l0.length : Int) := of_decide_eq_true y2_
        obtain ⟨ad118, A118_4, c118_4, e118, hx118_0, hx118_1, hx118_2, hx118_3, hx118_4, hl118_4, hi118_4⟩ := at_T35 HR0.out x3_1 p118 q118
        obtain rfl : ad117 = ad118 := (by injection e118)
        replace hx118_0 := (HB.out.cell (World.block_lt_of_cell? w _ hx118_0)).trans hx118_0
        replace hx118_1 := (HB.out.cell (World.block_lt_of_cell? w _ hx118_1)).trans hx118_1
        replace hx118_2 := (HB.out.cell (World.block_lt_of_cell? w _ hx118_2)).trans hx118_2
        replace hx118_3 := (HB.out.cell (World.block_lt_of_cell? w _ hx118_3)).trans hx118_3
        replace hx118_4 := (HB.out.cell (World.block_lt_of_cell? w _ hx118_4)).trans hx118_4
        try (have e_ := Option.some.inj (hx117_4.symm.trans hx118_4); injection e_ with ea_ eb_ ec_; rw [ea_, ec_] at hx117_4; clear ea_ eb_ ec_)
        have HR118_4 := Aside0.mk hi118_4
        have HC118_4 := Aside0.mk hl118_4
        clear hi118_4 hl118_4
        replace p118 := eq_true p118
        replace q118 := eq_true q118
        go_wp2_with (first | ((with_reducible refine gate_callee (f := 18) rfl ?_); refine goesL_ (some 20) rfl rfl Tryd.func18 (by kernel_rfl) rfl #[.agg #[.int .i64 ((rd_T35 l0 x3_1).f0), .int .i64 ((rd_T35 l0 x3_1).f1), .string ((rd_T35 l0 x3_1).f2), .string ((rd_T35 l0 x3_1).f3), .slice A118_4 ((rd_T35 l0 x3_1).f4).length c118_4]] rfl y14_ ?_; (with_reducible refine (boltingref04_Row.calls k1 ((rd_T35 l0 x3_1).f0) ((rd_T35 l0 x3_1).f1) ((rd_T35 l0 x3_1).f2) ((rd_T35 l0 x3_1).f3) _ _ ((rd_T35 l0 x3_1).f4) true _ ?side1 ?side2 A5.out).mono ?_); (case side1 => repeat (first | exact (Kd.C_below HR118_4.out HB.out) | (with_reducible refine Kd.C_alloc ?_ _) | (with_reducible refine Kd.C_drewN ?_ _) | (with_reducible refine Kd.C_drew ?_))); (case side2 => exact HC118_4.out); rintro e w11 ⟨rfl, hb⟩; refine ⟨_, rfl, ?_⟩; have n0_ := Aside0.mk (below_step y13_ hb); clear HB; have HB := n0_; clear n0_; (try clear hb); (try clear hb2); (try clear hk); (try clear hi)))
        go_meet
        case rel => exact ⟨_, (false), y4_, H', ⟨by have := HK1.out; first | omega | exact Nat.le_refl _⟩, ⟨y13_⟩⟩
     ·replace c6 := Bool.eq_false_iff.mpr c6
      subst c6
      rw [if_neg (show ¬ (false = true) by decide)] at H
      have H' := Aside0.mk H
      clear H
      have p118 : 0 ≤ (x3_1 : Int) := of_decide_eq_true y2_
      have q118 : x3_1 < (l0.length : Int) := of_decide_eq_true y2_
      obtain ⟨ad118, A118_4, c118_4, e118, hx118_0, hx118_1, hx118_2, hx118_3, hx118_4, hl118_4, hi118_4⟩ := at_T35 HR0.out x3_1 p118 q118
      obtain rfl : ad117 = ad118 := (by injection e118)
      replace hx118_0 := (HB.out.cell (World.block_lt_of_cell? w _ hx118_0)).trans hx118_0
      replace hx118_1 := (HB.out.cell (World.block_lt_of_cell? w _ hx118_1)).trans hx118_1
      replace hx118_2 := (HB.out.cell (World.block_lt_of_cell? w _ hx118_2)).trans hx118_2
      replace hx118_3 := (HB.out.cell (World.block_lt_of_cell? w _ hx118_3)).trans hx118_3
      replace hx118_4 := (HB.out.cell (World.block_lt_of_cell? w _ hx118_4)).trans hx118_4
      try (have e_ := Option.some.inj (hx117_4.symm.trans hx118_4); injection e_ with ea_ eb_ ec_; rw [ea_, ec_] at hx117_4; clear ea_ eb_ ec_)
      have HR118_4 := Aside0.mk hi118_4
      have HC118_4 := Aside0.mk hl118_4
      clear hi118_4 hl118_4
      replace p118 := eq_true p118
      replace q118 := eq_true q118
      go_wp2_with (first | ((with_reducible refine gate_callee (f := 18) rfl ?_); refine goesL_ (some 20) rfl rfl Tryd.func18 (by kernel_rfl) rfl #[.agg #[.int .i64 ((rd_T35 l0 x3_1).f0), .int .i64 ((rd_T35 l0 x3_1).f1), .string ((rd_T35 l0 x3_1).f2), .string ((rd_T35 l0 x3_1).f3), .slice A118_4 ((rd_T35 l0 x3_1).f4).length c118_4]] rfl y14_ ?_; (with_reducible refine (boltingref04_Row.calls k1 ((rd_T35 l0 x3_1).f0) ((rd_T35 l0 x3_1).f1) ((rd_T35 l0 x3_1).f2) ((rd_T35 l0 x3_1).f3) _ _ ((rd_T35 l0 x3_1).f4) false _ ?side1 ?side2 A5.out).mono ?_); (case side1 => repeat (first | exact (Kd.C_below HR118_4.out HB.out) | (with_reducible refine Kd.C_alloc ?_ _) | (with_reducible refine Kd.C_drewN ?_ _) | (with_reducible refine Kd.C_drew ?_))); (case side2 => exact HC118_4.out); rintro e w12 ⟨rfl, hb⟩; refine ⟨_, rfl, ?_⟩; have n0_ := Aside0.mk (below_step y13_ hb); clear HB; have HB := n0_; clear n0_; (try clear hb); (try clear hb2); (try clear hk); (try clear hi)))
      go_meet
      case rel => exact ⟨_, (true), y4_, H', ⟨by have := HK1.out; first | omega | exact Nat.le_refl _⟩, ⟨y13_⟩⟩
    case rest =>
     clear HC4
     try clear c1
     try clear p1
     try clear q1
     try clear hx1
     try clear c2
     try clear c2b0
     try clear p2
     try clear c3
     try clear c3b0
     try clear c6
     try clear c7
     try clear c7b0
     try clear c9
     try clear c9b0
     try clear c9b1
     try clear c11
     try clear p11
     try clear q11
     try clear hx11
     try clear hx117_0
     try clear hx117_1
     try clear hx117_2
     try clear hx117_3
     try clear hx117_4
     try clear hx118_0
     try clear hx118_1
     try clear hx118_2
     try clear hx118_3
     try clear hx118_4
     try clear p117
     try clear p118
     try clear q117
     try clear q118
     obtain ⟨kq, x33_3, rfl, HA, HJ3, HB⟩ := hcut
     cases kq with
     | zero => exact absurd HA.out (by simp [boltingref04_Right.j1])
     | succ kj3 =>
      have H := HA.out
      clear HA
      simp only [boltingref04_Right.j1] at H
      by_cases c13 : x33_3 = true
      ·subst c13
       rw [if_pos rfl] at H
       obtain rfl := Option.some.inj H
       go_wp2
       go_ret
       exact ⟨y12_, y13_⟩
      ·replace c13 := Bool.eq_false_iff.mpr c13
       subst c13
       rw [if_neg (show ¬ (false = true) by decide)] at H
       by_cases c14 : x3_1 > 0
       ·rw [if_pos c14] at H
        have c14b0 : decide (0 < x3_1) = true := decide_eq_true c14
        clear c14
        obtain ⟨ji15, hji15⟩ : ∃ j_ : Int, (wrap64 (x3_1 - 1)) = j_ := ⟨_, rfl⟩
        replace H : (if 0 ≤ (ji15) then (if (ji15) < (l0.length : Int) then (if ((rd_T35 l0 x3_1).f0) > (wrap64 (((rd_T35 l0 (ji15)).f0) + 1)) then (some false) else (if ((rd_T35 l0 x3_1).f0) = (wrap64 (((rd_T35 l0 (ji15)).f0) + 1)) then (if ((rd_T35 l0 (ji15)).f1) = 0 then (boltingref04_Right.l0 kj3 l0 (wrap64 (x3_1 + 1))) else (some false)) else (boltingref04_Right.l0 kj3 l0 (wrap64 (x3_1 + 1))))) else (none)) else (none)) = some r := by first | (rw [hji15] at H; exact H) | (simp only [hji15] at H ⊢; exact H)
        have hji15w : (IntKind.i64.wrap (x3_1 - 1)) = ji15 := (i64_w _).trans hji15
        by_cases c16 : 0 ≤ (ji15)
        rotate_left
        ·rw [if_neg c16] at H
         exact absurd H (by simp)
        rw [if_pos c16] at H
        have c16b0 : decide (0 ≤ (ji15)) = true := decide_eq_true c16
        clear c16
        by_cases c17 : (ji15) < (l0.length : Int)
        rotate_left
        ·rw [if_neg c17] at H
         exact absurd H (by simp)
        rw [if_pos c17] at H
        have c17b0 : decide ((ji15) < (l0.length : Int)) = true := decide_eq_true c17
        clear c17
        by_cases c18 : ((rd_T35 l0 x3_1).f0) > (wrap64 (((rd_T35 l0 (ji15)).f0) + 1))
        ·rw [if_pos c18] at H
         have c18b0 : decide ((wrap64 (((rd_T35 l0 (ji15)).f0) + 1)) < ((rd_T35 l0 x3_1).f0)) = true := decide_eq_true c18
         clear c18
         obtain rfl := Option.some.inj H
         have p120 : 0 ≤ ((ji15) : Int) := of_decide_eq_true y2_
         have q120 : (ji15) < (l0.length : Int) := of_decide_eq_true y2_
         obtain ⟨ad120, A120_4, c120_4, e120, hx120_0, hx120_1, hx120_2, hx120_3, hx120_4, hl120_4, hi120_4⟩ := at_T35 HR0.out (ji15) p120 q120
         obtain rfl : ad117 = ad120 := (by injection e120)
         replace hx120_0 := (HB.out.cell (World.block_lt_of_cell? w _ hx120_0)).trans hx120_0
         replace hx120_1 := (HB.out.cell (World.block_lt_of_cell? w _ hx120_1)).trans hx120_1
         replace hx120_2 := (HB.out.cell (World.block_lt_of_cell? w _ hx120_2)).trans hx120_2
         replace hx120_3 := (HB.out.cell (World.block_lt_of_cell? w _ hx120_3)).trans hx120_3
         replace hx120_4 := (HB.out.cell (World.block_lt_of_cell? w _ hx120_4)).trans hx120_4
         try (have e_ := Option.some.inj (hx117_4.symm.trans hx120_4); injection e_ with ea_ eb_ ec_; rw [ea_, ec_] at hx117_4; clear ea_ eb_ ec_)
         have HR120_4 := Aside0.mk hi120_4
         have HC120_4 := Aside0.mk hl120_4
         clear hi120_4 hl120_4
         replace p120 := eq_true p120
         replace q120 := eq_true q120
         go_wp2
         go_ret
         exact ⟨y24_, y13_⟩
        ·rw [if_neg c18] at H
         have c18b0 : decide ((wrap64 (((rd_T35 l0 (ji15)).f0) + 1)) < ((rd_T35 l0 x3_1).f0)) = false := decide_eq_false c18
         clear c18
         by_cases c19 : ((rd_T35 l0 x3_1).f0) = (wrap64 (((rd_T35 l0 (ji15)).f0) + 1))
         ·rw [if_pos c19] at H
          have c19b0 : (((rd_T35 l0 x3_1).f0) == (wrap64 (((rd_T35 l0 (ji15)).f0) + 1))) = true := beq_iff_eq.mpr c19
          have c19b1 : (((rd_T35 l0 x3_1).f0) != (wrap64 (((rd_T35 l0 (ji15)).f0) + 1))) = false := bne_eq_false_iff_eq.mpr c19
          clear c19
          by_cases c20 : ((rd_T35 l0 (ji15)).f1) = 0
          ·rw [if_pos c20] at H
           have c20b0 : (((rd_T35 l0 (ji15)).f1) == 0) = true := beq_iff_eq.mpr c20
           have c20b1 : (((rd_T35 l0 (ji15)).f1) != 0) = false := bne_eq_false_iff_eq.mpr c20
           clear c20
           have H' := Aside0.mk H
           clear H
           have p120 : 0 ≤ ((ji15) : Int) := of_decide_eq_true y2_
           have q120 : (ji15) < (l0.length : Int) := of_decide_eq_true y2_
           obtain ⟨ad120, A120_4, c120_4, e120, hx120_0, hx120_1, hx120_2, hx120_3, hx120_4, hl120_4, hi120_4⟩ := at_T35 HR0.out (ji15) p120 q120
           obtain rfl : ad117 = ad120 := (by injection e120)
           replace hx120_0 := (HB.out.cell (World.block_lt_of_cell? w _ hx120_0)).trans hx120_0
           replace hx120_1 := (HB.out.cell (World.block_lt_of_cell? w _ hx120_1)).trans hx120_1
           replace hx120_2 := (HB.out.cell (World.block_lt_of_cell? w _ hx120_2)).trans hx120_2
           replace hx120_3 := (HB.out.cell (World.block_lt_of_cell? w _ hx120_3)).trans hx120_3
           replace hx120_4 := (HB.out.cell (World.block_lt_of_cell? w _ hx120_4)).trans hx120_4
           try (have e_ := Option.some.inj (hx117_4.symm.trans hx120_4); injection e_ with ea_ eb_ ec_; rw [ea_, ec_] at hx117_4; clear ea_ eb_ ec_)
           have HR120_4 := Aside0.mk hi120_4
           have HC120_4 := Aside0.mk hl120_4
           clear hi120_4 hl120_4
           replace p120 := eq_true p120
           replace q120 := eq_true q120
           have p121 : 0 ≤ ((ji15) : Int) := of_decide_eq_true y2_
           have q121 : (ji15) < (l0.length : Int) := of_decide_eq_true y2_
           obtain ⟨ad121, A121_4, c121_4, e121, hx121_0, hx121_1, hx121_2, hx121_3, hx121_4, hl121_4, hi121_4⟩ := at_T35 HR0.out (ji15) p121 q121
           obtain rfl : ad117 = ad121 := (by injection e121)
           replace hx121_0 := (HB.out.cell (World.block_lt_of_cell? w _ hx121_0)).trans hx121_0
           replace hx121_1 := (HB.out.cell (World.block_lt_of_cell? w _ hx121_1)).trans hx121_1
           replace hx121_2 := (HB.out.cell (World.block_lt_of_cell? w _ hx121_2)).trans hx121_2
           replace hx121_3 := (HB.out.cell (World.block_lt_of_cell? w _ hx121_3)).trans hx121_3
           replace hx121_4 := (HB.out.cell (World.block_lt_of_cell? w _ hx121_4)).trans hx121_4
           have HR121_4 := Aside0.mk hi121_4
           have HC121_4 := Aside0.mk hl121_4
           clear hi121_4 hl121_4
           replace p121 := eq_true p121
           replace q121 := eq_true q121
           have ea_ := Option.some.inj (hx120_4.symm.trans hx121_4)
           injection ea_ with ea_ en_ ec_
           subst ea_
           subst ec_
           clear en_
           have p122 : 0 ≤ ((ji15) : Int) := of_decide_eq_true y2_
           have q122 : (ji15) < (l0.length : Int) := of_decide_eq_true y2_
           obtain ⟨ad122, A122_4, c122_4, e122, hx122_0, hx122_1, hx122_2, hx122_3, hx122_4, hl122_4, hi122_4⟩ := at_T35 HR0.out (ji15) p122 q122
           obtain rfl : ad117 = ad122 := (by injection e122)
           replace hx122_0 := (HB.out.cell (World.block_lt_of_cell? w _ hx122_0)).trans hx122_0
           replace hx122_1 := (HB.out.cell (World.block_lt_of_cell? w _ hx122_1)).trans hx122_1
           replace hx122_2 := (HB.out.cell (World.block_lt_of_cell? w _ hx122_2)).trans hx122_2
           replace hx122_3 := (HB.out.cell (World.block_lt_of_cell? w _ hx122_3)).trans hx122_3
           replace hx122_4 := (HB.out.cell (World.block_lt_of_cell? w _ hx122_4)).trans hx122_4
           have HR122_4 := Aside0.mk hi122_4
           have HC122_4 := Aside0.mk hl122_4
           clear hi122_4 hl122_4
           replace p122 := eq_true p122
           replace q122 := eq_true q122
           have ea_ := Option.some.inj (hx120_4.symm.trans hx122_4)
           injection ea_ with ea_ en_ ec_
           subst ea_
           subst ec_
           clear en_
           go_wp2
           go_roundg kj3
           case measure => have := HK1.out; have := HJ3.out; omega
           case rel => exact ⟨(wrap64 (x3_1 + 1)), y4_, H', ⟨by have := HK1.out; have := HJ3.out; omega⟩, ⟨y13_⟩⟩
          ·rw [if_neg c20] at H
           have c20b0 : (((rd_T35 l0 (ji15)).f1) == 0) = false := beq_eq_false_iff_ne.mpr c20
           have c20b1 : (((rd_T35 l0 (ji15)).f1) != 0) = true := bne_iff_ne.mpr c20
           obtain rfl := Option.some.inj H
           have p120 : 0 ≤ ((ji15) : Int) := of_decide_eq_true y2_
           have q120 : (ji15) < (l0.length : Int) := of_decide_eq_true y2_
           obtain ⟨ad120, A120_4, c120_4, e120, hx120_0, hx120_1, hx120_2, hx120_3, hx120_4, hl120_4, hi120_4⟩ := at_T35 HR0.out (ji15) p120 q120
           obtain rfl : ad117 = ad120 := (by injection e120)
           replace hx120_0 := (HB.out.cell (World.block_lt_of_cell? w _ hx120_0)).trans hx120_0
           replace hx120_1 := (HB.out.cell (World.block_lt_of_cell? w _ hx120_1)).trans hx120_1
           replace hx120_2 := (HB.out.cell (World.block_lt_of_cell? w _ hx120_2)).trans hx120_2
           replace hx120_3 := (HB.out.cell (World.block_lt_of_cell? w _ hx120_3)).trans hx120_3
           replace hx120_4 := (HB.out.cell (World.block_lt_of_cell? w _ hx120_4)).trans hx120_4
           try (have e_ := Option.some.inj (hx117_4.symm.trans hx120_4); injection e_ with ea_ eb_ ec_; rw [ea_, ec_] at hx117_4; clear ea_ eb_ ec_)
           have HR120_4 := Aside0.mk hi120_4
           have HC120_4 := Aside0.mk hl120_4
           clear hi120_4 hl120_4
           replace p120 := eq_true p120
           replace q120 := eq_true q120
           have p121 : 0 ≤ ((ji15) : Int) := of_decide_eq_true y2_
           have q121 : (ji15) < (l0.length : Int) := of_decide_eq_true y2_
           obtain ⟨ad121, A121_4, c121_4, e121, hx121_0, hx121_1, hx121_2, hx121_3, hx121_4, hl121_4, hi121_4⟩ := at_T35 HR0.out (ji15) p121 q121
           obtain rfl : ad117 = ad121 := (by injection e121)
           replace hx121_0 := (HB.out.cell (World.block_lt_of_cell? w _ hx121_0)).trans hx121_0
           replace hx121_1 := (HB.out.cell (World.block_lt_of_cell? w _ hx121_1)).trans hx121_1
           replace hx121_2 := (HB.out.cell (World.block_lt_of_cell? w _ hx121_2)).trans hx121_2
           replace hx121_3 := (HB.out.cell (World.block_lt_of_cell? w _ hx121_3)).trans hx121_3
           replace hx121_4 := (HB.out.cell (World.block_lt_of_cell? w _ hx121_4)).trans hx121_4
           have HR121_4 := Aside0.mk hi121_4
           have HC121_4 := Aside0.mk hl121_4
           clear hi121_4 hl121_4
           replace p121 := eq_true p121
           replace q121 := eq_true q121
           have ea_ := Option.some.inj (hx120_4.symm.trans hx121_4)
           injection ea_ with ea_ en_ ec_
           subst ea_
           subst ec_
           clear en_
           have p122 : 0 ≤ ((ji15) : Int) := of_decide_eq_true y2_
           have q122 : (ji15) < (l0.length : Int) := of_decide_eq_true y2_
           obtain ⟨ad122, A122_4, c122_4, e122, hx122_0, hx122_1, hx122_2, hx122_3, hx122_4, hl122_4, hi122_4⟩ := at_T35 HR0.out (ji15) p122 q122
           obtain rfl : ad117 = ad122 := (by injection e122)
           replace hx122_0 := (HB.out.cell (World.block_lt_of_cell? w _ hx122_0)).trans hx122_0
           replace hx122_1 := (HB.out.cell (World.block_lt_of_cell? w _ hx122_1)).trans hx122_1
           replace hx122_2 := (HB.out.cell (World.block_lt_of_cell? w _ hx122_2)).trans hx122_2
           replace hx122_3 := (HB.out.cell (World.block_lt_of_cell? w _ hx122_3)).trans hx122_3
           replace hx122_4 := (HB.out.cell (World.block_lt_of_cell? w _ hx122_4)).trans hx122_4
           have HR122_4 := Aside0.mk hi122_4
           have HC122_4 := Aside0.mk hl122_4
           clear hi122_4 hl122_4
           replace p122 := eq_true p122
           replace q122 := eq_true q122
           have ea_ := Option.some.inj (hx120_4.symm.trans hx122_4)
           injection ea_ with ea_ en_ ec_
           subst ea_
           subst ec_
           clear en_
           go_wp2
           go_ret
           exact ⟨y24_, y13_⟩
         ·rw [if_neg c19] at H
          have c19b0 : (((rd_T35 l0 x3_1).f0) == (wrap64 (((rd_T35 l0 (ji15)).f0) + 1))) = false := beq_eq_false_iff_ne.mpr c19
          have c19b1 : (((rd_T35 l0 x3_1).f0) != (wrap64 (((rd_T35 l0 (ji15)).f0) + 1))) = true := bne_iff_ne.mpr c19
          have H' := Aside0.mk H
          clear H
          have p120 : 0 ≤ ((ji15) : Int) := of_decide_eq_true y2_
          have q120 : (ji15) < (l0.length : Int) := of_decide_eq_true y2_
          obtain ⟨ad120, A120_4, c120_4, e120, hx120_0, hx120_1, hx120_2, hx120_3, hx120_4, hl120_4, hi120_4⟩ := at_T35 HR0.out (ji15) p120 q120
          obtain rfl : ad117 = ad120 := (by injection e120)
          replace hx120_0 := (HB.out.cell (World.block_lt_of_cell? w _ hx120_0)).trans hx120_0
          replace hx120_1 := (HB.out.cell (World.block_lt_of_cell? w _ hx120_1)).trans hx120_1
          replace hx120_2 := (HB.out.cell (World.block_lt_of_cell? w _ hx120_2)).trans hx120_2
          replace hx120_3 := (HB.out.cell (World.block_lt_of_cell? w _ hx120_3)).trans hx120_3
          replace hx120_4 := (HB.out.cell (World.block_lt_of_cell? w _ hx120_4)).trans hx120_4
          try (have e_ := Option.some.inj (hx117_4.symm.trans hx120_4); injection e_ with ea_ eb_ ec_; rw [ea_, ec_] at hx117_4; clear ea_ eb_ ec_)
          have HR120_4 := Aside0.mk hi120_4
          have HC120_4 := Aside0.mk hl120_4
          clear hi120_4 hl120_4
          replace p120 := eq_true p120
          replace q120 := eq_true q120
          have p121 : 0 ≤ ((ji15) : Int) := of_decide_eq_true y2_
          have q121 : (ji15) < (l0.length : Int) := of_decide_eq_true y2_
          obtain ⟨ad121, A121_4, c121_4, e121, hx121_0, hx121_1, hx121_2, hx121_3, hx121_4, hl121_4, hi121_4⟩ := at_T35 HR0.out (ji15) p121 q121
          obtain rfl : ad117 = ad121 := (by injection e121)
          replace hx121_0 := (HB.out.cell (World.block_lt_of_cell? w _ hx121_0)).trans hx121_0
          replace hx121_1 := (HB.out.cell (World.block_lt_of_cell? w _ hx121_1)).trans hx121_1
          replace hx121_2 := (HB.out.cell (World.block_lt_of_cell? w _ hx121_2)).trans hx121_2
          replace hx121_3 := (HB.out.cell (World.block_lt_of_cell? w _ hx121_3)).trans hx121_3
          replace hx121_4 := (HB.out.cell (World.block_lt_of_cell? w _ hx121_4)).trans hx121_4
          have HR121_4 := Aside0.mk hi121_4
          have HC121_4 := Aside0.mk hl121_4
          clear hi121_4 hl121_4
          replace p121 := eq_true p121
          replace q121 := eq_true q121
          have ea_ := Option.some.inj (hx120_4.symm.trans hx121_4)
          injection ea_ with ea_ en_ ec_
          subst ea_
          subst ec_
          clear en_
          go_wp2
          go_roundg kj3
          case measure => have := HK1.out; have := HJ3.out; omega
          case rel => exact ⟨(wrap64 (x3_1 + 1)), y4_, H', ⟨by have := HK1.out; have := HJ3.out; omega⟩, ⟨y13_⟩⟩
       ·rw [if_neg c14] at H
        have c14b0 : decide (0 < x3_1) = false := decide_eq_false c14
        clear c14
        have H' := Aside0.mk H
        clear H
        go_wp2
        go_roundg kj3
        case measure => have := HK1.out; have := HJ3.out; omega
        case rel => exact ⟨(wrap64 (x3_1 + 1)), y4_, H', ⟨by have := HK1.out; have := HJ3.out; omega⟩, ⟨y13_⟩⟩
   ·rw [if_neg c2] at H
    have c2b0 : decide (x3_1 < (l0.length : Int)) = false := decide_eq_false c2
    clear c2
    obtain rfl := Option.some.inj H
    go_wp2
    go_ret
    exact ⟨y12_, y13_⟩
end Go.Proofs.YtpnhjipaeggcpaaDoor.X
end
section
namespace Go.Proofs.YtpnhjipaeggcpaaDoor.X
open Go.RowKit Go.Proofs.YtpnhjipaeggcpaaDoorW.PrintWords Go.Proofs.YtpnhjipaeggcpaaDoorW.PrintLast Go.Proofs.YtpnhjipaeggcpaaDoorW.PrintMore
attribute [local go_sem] max2_int min2_int max_two min_two max_three min_three max_four min_four
mutual
def boltingref04_End.j0 : Nat → List (S35) → Int → Bool → Option (Int)
 | 0, _, _, _ => none
 | k + 1, x0, x1, x13 => if x13 = true then (some 0) else (boltingref04_End.l0 k x0 x1 (wrap64 (x1 + 1)))
def boltingref04_End.l0 : Nat → List (S35) → Int → Int → Option (Int)
 | 0, _, _, _ => none
 | k + 1, x0, x1, x5 => if x5 < (x0.length : Int) then (if 0 ≤ x5 then (if 0 ≤ x1 then (if x1 < (x0.length : Int) then (if ((rd_T35 x0 x5).f0) ≤ ((rd_T35 x0 x1).f0) then (some x5) else (boltingref04_End.l0 k x0 x1 (wrap64 (x5 + 1)))) else (none)) else (none)) else (none)) else (some (x0.length : Int))
end
def boltingref04_End.f (k : Nat) (l0 : List (S35)) (a1 : Int) : Option (Int) := if a1 < 0 then (boltingref04_End.j0 k l0 a1 true) else (boltingref04_End.j0 k l0 a1 (decide (a1 ≥ (l0.length : Int))))
theorem boltingref04_End.mono_l : ∀ k, (∀ y0 y1 y2, LeO (boltingref04_End.j0 k y0 y1 y2) (boltingref04_End.j0 (k + 1) y0 y1 y2)) ∧ (∀ y0 y1 y2, LeO (boltingref04_End.l0 k y0 y1 y2) (boltingref04_End.l0 (k + 1) y0 y1 y2))
 | 0 => ⟨fun _ _ _ r h => by simp [boltingref04_End.j0] at h, fun _ _ _ r h => by simp [boltingref04_End.l0] at h⟩
 | k + 1 => by
  obtain ⟨ih0, ih1⟩ := boltingref04_End.mono_l k
  refine ⟨?_, ?_⟩
  ·intro y0 y1 y2
   unfold boltingref04_End.j0
   repeat' first
   | (with_reducible exact ih0 _ _ _)
   | (with_reducible exact ih1 _ _ _)
   | (with_reducible exact LeO.refl _)
   | (with_reducible exact LeO.none _)
   | (with_reducible refine LeO.ite ?_ ?_)
   | (with_reducible refine LeO.bind ?_ (fun _ => ?_))
   | exact ih0 _ _ _
   | exact ih1 _ _ _
   | exact LeO.none _
   | refine LeO.ite ?_ ?_
   | refine LeO.bind ?_ (fun _ => ?_)
  ·intro y0 y1 y2
   unfold boltingref04_End.l0
   repeat' first
   | (with_reducible exact ih0 _ _ _)
   | (with_reducible exact ih1 _ _ _)
   | (with_reducible exact LeO.refl _)
   | (with_reducible exact LeO.none _)
   | (with_reducible refine LeO.ite ?_ ?_)
   | (with_reducible refine LeO.bind ?_ (fun _ => ?_))
   | exact ih0 _ _ _
   | exact ih1 _ _ _
   | exact LeO.none _
   | refine LeO.ite ?_ ?_
   | refine LeO.bind ?_ (fun _ => ?_)
theorem boltingref04_End.mono : ∀ a0 a1 k, LeO (boltingref04_End.f k a0 a1) (boltingref04_End.f (k + 1) a0 a1) := by
 intro a0 a1 k
 obtain ⟨ih0, ih1⟩ := boltingref04_End.mono_l k
 unfold boltingref04_End.f
 repeat' first
   | (with_reducible exact ih0 _ _ _)
   | (with_reducible exact ih1 _ _ _)
   | (with_reducible exact LeO.refl _)
   | (with_reducible exact LeO.none _)
   | (with_reducible refine LeO.ite ?_ ?_)
   | (with_reducible refine LeO.bind ?_ (fun _ => ?_))
   | exact ih0 _ _ _
   | exact ih1 _ _ _
   | exact LeO.none _
   | refine LeO.ite ?_ ?_
   | refine LeO.bind ?_ (fun _ => ?_)
set_option maxHeartbeats 8000000 in
set_option maxRecDepth 100000 in
theorem boltingref04_End.calls (k : Nat) (A0 : Option Addr) (c0 : Nat) (l0 : List (S35)) (a1 : Int) (r : Int) (w : World) (hr0 : Kd.C k35 w A0 l0.length l0) (hc0 : l0.length ≤ c0) (h : boltingref04_End.f k l0 a1 = some r) :
  Calls Tryd.prog 15 #[.slice A0 l0.length c0, .int .i64 a1] w fun e w' => e = .returned (.int .i64 r) ∧ Drawn0 w w' := by
 have HR0 := Aside0.mk hr0
 have HC0 := Aside0.mk hc0
 clear hr0 hc0
 have H : (if a1 < 0 then (boltingref04_End.j0 k l0 a1 true) else (boltingref04_End.j0 k l0 a1 (decide (a1 ≥ (l0.length : Int))))) = some r := h
 clear h
 have HC3 := Aside0.mk H
 clear H
 go_enter Tryd.func15, Tryd.ntmps15
 go_upto_region 1 with (fail)
 repeat (go_quiet (fail); go_upto_region 1 with (fail))
 go_cut [13] (fun v13 wc => ∃ (kq : Nat) (x13_2 : Bool), v13 = .bool x13_2 ∧ Aside0 (boltingref04_End.j0 kq l0 a1 x13_2 = some r) ∧ Aside0 (kq ≤ k) ∧ Drawn0 w wc)
 case first =>
  have H := HC3.out
  clear HC3
  by_cases c4 : a1 < 0
  ·rw [if_pos c4] at H
   have c4b0 : decide (a1 < 0) = true := decide_eq_true c4
   clear c4
   (first | rw [c4b0] | (simp only [i64_w, i32_w]; rw [c4b0]) | skip)
   have H' := Aside0.mk H
   clear H
   go_wp2
   repeat (go_quiet (fail); try go_wp2)
   go_meet
   case rel => exact ⟨_, (true), y4_, H', ⟨y1_⟩, y3_⟩
  ·rw [if_neg c4] at H
   have c4b0 : decide (a1 < 0) = false := decide_eq_false c4
   clear c4
   (first | rw [c4b0] | (simp only [i64_w, i32_w]; rw [c4b0]) | skip)
   have H' := Aside0.mk H
   clear H
   go_wp2
   repeat (go_quiet (fail); try go_wp2)
   go_meet
   case rel => exact ⟨_, (decide (a1 ≥ (l0.length : Int))), y4_, H', ⟨y1_⟩, y3_⟩
 case rest =>
  clear HC3
  try clear c1
  try clear p2
  try clear c4
  try clear c4b0
  obtain ⟨kq, x13_2, rfl, HA, HJ2, ⟨mc2, rfl⟩⟩ := hcut
  cases kq with
  | zero => exact absurd HA.out (by simp [boltingref04_End.j0])
  | succ kj2 =>
   have H := HA.out
   clear HA
   simp only [boltingref04_End.j0] at H
   by_cases c5 : x13_2 = true
   ·subst c5
    rw [if_pos rfl] at H
    obtain rfl := Option.some.inj H
    go_wp2
    repeat (go_quiet (fail); try go_wp2)
    go_ret
    exact ⟨y4_, y3_⟩
   ·replace c5 := Bool.eq_false_iff.mpr c5
    subst c5
    rw [if_neg (show ¬ (false = true) by decide)] at H
    have H' := Aside0.mk H
    clear H
    go_wp2
    repeat (go_quiet (fail); try go_wp2)
    go_loopg [5] kj2 (fun kq v5 w' => ∃ (x5_2 : Int), v5 = .int .i64 x5_2 ∧ Aside0 (boltingref04_End.l0 kq l0 a1 x5_2 = some r) ∧ Aside0 (kq ≤ kj2) ∧ Drawn0 w w')
    case atStart => exact ⟨(wrap64 (a1 + 1)), y4_, H', ⟨Nat.le_refl _⟩, y3_⟩
    case round =>
     clear H'
     try clear c1
     try clear c2
     try clear p2
     try clear c4
     try clear c4b0
     try clear c5
     try clear p2
     obtain ⟨x5_2, rfl, HA, HK2, ⟨m2, rfl⟩⟩ := hrel
     cases gk with
     | zero => exact absurd HA.out (by simp [boltingref04_End.l0])
     | succ k2 =>
      have H := HA.out
      clear HA
      simp only [boltingref04_End.l0] at H
      by_cases c6 : x5_2 < (l0.length : Int)
      ·rw [if_pos c6] at H
       have c6b0 : decide (x5_2 < (l0.length : Int)) = true := decide_eq_true c6
       clear c6
       by_cases c7 : 0 ≤ x5_2
       rotate_left
       ·rw [if_neg c7] at H
        exact absurd H (by simp)
       rw [if_pos c7] at H
       have c7b0 : decide (0 ≤ x5_2) = true := decide_eq_true c7
       clear c7
       by_cases c8 : 0 ≤ a1
       rotate_left
       ·rw [if_neg c8] at H
        exact absurd H (by simp)
       rw [if_pos c8] at H
       have c8b0 : decide (0 ≤ a1) = true := decide_eq_true c8
       clear c8
       by_cases c9 : a1 < (l0.length : Int)
       rotate_left
       ·rw [if_neg c9] at H
        exact absurd H (by simp)
       rw [if_pos c9] at H
       have c9b0 : decide (a1 < (l0.length : Int)) = true := decide_eq_true c9
       clear c9
       by_cases c10 : ((rd_T35 l0 x5_2).f0) ≤ ((rd_T35 l0 a1).f0)
       ·rw [if_pos c10] at H
        have c10b0 : decide (((rd_T35 l0 x5_2).f0) ≤ ((rd_T35 l0 a1).f0)) = true := decide_eq_true c10
        clear c10
        obtain rfl := Option.some.inj H
        have p227 : 0 ≤ (x5_2 : Int) := of_decide_eq_true y2_
        have q227 : x5_2 < (l0.length : Int) := of_decide_eq_true y2_
        obtain ⟨ad227, A227_4, c227_4, e227, hx227_0, hx227_1, hx227_2, hx227_3, hx227_4, hl227_4, hi227_4⟩ := at_T35 HR0.out x5_2 p227 q227
        cases e227
        have HR227_4 := Aside0.mk hi227_4
        have HC227_4 := Aside0.mk hl227_4
        clear hi227_4 hl227_4
        replace p227 := eq_true p227
        replace q227 := eq_true q227
        have p228 : 0 ≤ (a1 : Int) := of_decide_eq_true y2_
        have q228 : a1 < (l0.length : Int) := of_decide_eq_true y2_
        obtain ⟨ad228, A228_4, c228_4, e228, hx228_0, hx228_1, hx228_2, hx228_3, hx228_4, hl228_4, hi228_4⟩ := at_T35 HR0.out a1 p228 q228
        obtain rfl : ad227 = ad228 := (by injection e228)
        try (have e_ := Option.some.inj (hx227_4.symm.trans hx228_4); injection e_ with ea_ eb_ ec_; rw [ea_, ec_] at hx227_4; clear ea_ eb_ ec_)
        have HR228_4 := Aside0.mk hi228_4
        have HC228_4 := Aside0.mk hl228_4
        clear hi228_4 hl228_4
        replace p228 := eq_true p228
        replace q228 := eq_true q228
        go_wp2
        repeat (go_quiet (fail); try go_wp2)
        go_ret
        exact ⟨y4_, y3_⟩
       ·rw [if_neg c10] at H
        have c10b0 : decide (((rd_T35 l0 x5_2).f0) ≤ ((rd_T35 l0 a1).f0)) = false := decide_eq_false c10
        clear c10
        have H' := Aside0.mk H
        clear H
        have p227 : 0 ≤ (x5_2 : Int) := of_decide_eq_true y2_
        have q227 : x5_2 < (l0.length : Int) := of_decide_eq_true y2_
        obtain ⟨ad227, A227_4, c227_4, e227, hx227_0, hx227_1, hx227_2, hx227_3, hx227_4, hl227_4, hi227_4⟩ := at_T35 HR0.out x5_2 p227 q227
        cases e227
        have HR227_4 := Aside0.mk hi227_4
        have HC227_4 := Aside0.mk hl227_4
        clear hi227_4 hl227_4
        replace p227 := eq_true p227
        replace q227 := eq_true q227
        have p228 : 0 ≤ (a1 : Int) := of_decide_eq_true y2_
        have q228 : a1 < (l0.length : Int) := of_decide_eq_true y2_
        obtain ⟨ad228, A228_4, c228_4, e228, hx228_0, hx228_1, hx228_2, hx228_3, hx228_4, hl228_4, hi228_4⟩ := at_T35 HR0.out a1 p228 q228
        obtain rfl : ad227 = ad228 := (by injection e228)
        try (have e_ := Option.some.inj (hx227_4.symm.trans hx228_4); injection e_ with ea_ eb_ ec_; rw [ea_, ec_] at hx227_4; clear ea_ eb_ ec_)
        have HR228_4 := Aside0.mk hi228_4
        have HC228_4 := Aside0.mk hl228_4
        clear hi228_4 hl228_4
        replace p228 := eq_true p228
        replace q228 := eq_true q228
        go_wp2
        repeat (go_quiet (fail); try go_wp2)
        go_roundg k2
        case measure => have := HJ2.out; have := HK2.out; omega
        case rel => exact ⟨(wrap64 (x5_2 + 1)), y4_, H', ⟨by have := HJ2.out; have := HK2.out; omega⟩, y3_⟩
      ·rw [if_neg c6] at H
       have c6b0 : decide (x5_2 < (l0.length : Int)) = false := decide_eq_false c6
       clear c6
       obtain rfl := Option.some.inj H
       go_wp2
       repeat (go_quiet (fail); try go_wp2)
       go_ret
       exact ⟨y4_, y3_⟩
end Go.Proofs.YtpnhjipaeggcpaaDoor.X
end
section
namespace Go.Proofs.YtpnhjipaeggcpaaDoor.X
open Go.RowKit Go.Proofs.YtpnhjipaeggcpaaDoorW.PrintWords Go.Proofs.YtpnhjipaeggcpaaDoorW.PrintLast Go.Proofs.YtpnhjipaeggcpaaDoorW.PrintMore
theorem r4End_loop (l : List S35) (i : Nat) (hi : i < l.length) (hmax : l.length ≤ 9223372036854775807) : ∀ (d k : Nat), k + d = l.length →
    boltingref04_End.l0 (d + 1) l (i : Int) (k : Int) = some ((k + runDeep ((rd_T35 l (i : Int)).f0) (l.drop k) : Nat) : Int)
  | 0, k, hk => by
    simp only [boltingref04_End.l0]
    rw [if_neg (by omega), List.drop_eq_nil_of_le (by omega)]
    simp [runDeep]; omega
  | d + 1, k, hk => by
    have hlt : k < l.length := by omega
    have ih := r4End_loop l i hi hmax d (k + 1) (by omega)
    rw [List.drop_eq_getElem_cons hlt]
    have hrd : rd_T35 l (k : Int) = l[k] := by simp [rd_T35, hlt]
    rw [boltingref04_End.l0, if_pos (by omega), if_pos (by omega), if_pos (by omega), if_pos (by omega), hrd, runDeep]
    by_cases hd : l[k].f0 ≤ (rd_T35 l (i : Int)).f0
    · rw [if_pos hd, if_neg (by omega)]; rfl
    · rw [if_neg hd, if_pos (by omega), show wrap64 ((k : Int) + 1) = ((k + 1 : Nat) : Int) by unfold wrap64; omega, ih]
      congr 2
      omega
theorem r4End_is (l : List S35) (i : Int) (hmax : l.length ≤ 9223372036854775807) : boltingref04_End.f (l.length + 2) l i = some (rEnd l i) := by
  unfold boltingref04_End.f rEnd
  by_cases h0 : i < 0
  · rw [if_pos h0, if_neg (by omega)]; rfl
  · rw [if_neg h0]
    by_cases h : i < (l.length : Int)
    · obtain ⟨k, rfl⟩ := Int.eq_ofNat_of_zero_le (by omega : 0 ≤ i)
      rw [if_pos (by omega), decide_eq_false (by omega)]
      simp only [boltingref04_End.j0]
      rw [if_neg (by decide), show wrap64 ((k : Int) + 1) = ((k + 1 : Nat) : Int) by unfold wrap64; omega]
      have := r4End_loop l k (by omega) hmax (l.length - (k + 1)) (k + 1) (by omega)
      rw [leO_le (f := fun q => boltingref04_End.l0 q l (k : Int) ((k + 1 : Nat) : Int)) (fun q => (boltingref04_End.mono_l q).2 _ _ _) this (by omega)]
      rfl
    · rw [if_neg (by omega), decide_eq_true (by omega)]; rfl
def rkOk (l : List S35) (i : Int) (k : Nat) : Bool := if i = -1 then (rd_T35 l (k : Int)).f0 == 0 else decide ((k : Int) > i) && (decide ((k : Int) < rEnd l i) && ((rd_T35 l (k : Int)).f0 == wrap64 ((rd_T35 l i).f0 + 1)))
def rkTo (l : List S35) (i : Int) (n : Nat) : List Int := ((List.range n).filter (rkOk l i)).map fun (k : Nat) => (k : Int)
def boltingref04_Kids.f (l0 : List S35) (a1 : Int) : Option (List Int) := if a1 < -1 ∨ a1 ≥ (l0.length : Int) then some [] else if l0.length < 17592186044416 then some (rkTo l0 a1 l0.length) else none
theorem rkTo_yes {l : List S35} {i : Int} {k : Nat} (h : rkOk l i k = true) : rkTo l i (k + 1) = rkTo l i k ++ [(k : Int)] := by simp [rkTo, List.range_succ, h]
theorem rkTo_no {l : List S35} {i : Int} {k : Nat} (h : rkOk l i k = false) : rkTo l i (k + 1) = rkTo l i k := by simp [rkTo, List.range_succ, h]
theorem rkTo_length (l : List S35) (i : Int) (n : Nat) : (rkTo l i n).length ≤ n := by
  unfold rkTo
  rw [List.length_map]
  exact Nat.le_trans (List.length_filter_le _ _) (by simp)
theorem rk_more {w W w3 : World} {v v' : Value} {xs : List Int} {k : Int} {o : Obj} (h1 : W.ownsRow w.heap.size 3 1 v xs.length (xs.map (.int .i64))) (h2 : Below w.heap.size w W) (h3 : w3.ownsRow w.heap.size 3 1 v' (xs.length + 1) (xs.map (.int .i64) ++ [.int .i64 k])) (hg : (W.alloc o).grownBy w3 v.ownBlock) :
    w3.ownsRow w.heap.size 3 1 v' (xs ++ [k]).length ((xs ++ [k]).map (.int .i64)) ∧ Below w.heap.size w w3 :=
  ⟨by rw [List.length_append, List.map_append]; exact h3, (h2.alloc h2.size o).grown hg (by have := h2.size; simp; omega) (fun k hk => (h1.lt k hk).1)⟩
theorem rk_lit (w : World) : (w.alloc (.cells #[] 3)).ownsRow w.heap.size 3 1 (.slice (some ⟨w.heap.size, 0, none⟩) 0 0) 0 [] :=
  ⟨rfl, .inr ⟨_, 0, #[], rfl, Nat.le_refl _, World.alloc_heap_new w _, Nat.le_refl _, by unfold maxLen; omega, rfl, rfl⟩⟩
set_option maxHeartbeats 8000000 in
set_option maxRecDepth 100000 in
theorem boltingref04_Kids.calls (A0 : Option Addr) (c0 : Nat) (l0 : List S35) (a1 : Int) (r : List Int) (w : World) (hr0 : Kd.C k35 w A0 l0.length l0) (hc0 : l0.length ≤ c0) (h : boltingref04_Kids.f l0 a1 = some r) :
    Calls Tryd.prog 13 #[.slice A0 l0.length c0, .int .i64 a1] w fun e w' => ∃ v0_ : Value, e = .returned v0_ ∧ Kd.R (Kd.int .i64) 3 w' w.heap.size (fun _ => True) v0_ r ∧ Below w.heap.size w w' := by
  have hu := Tryd.underlying35
  have hmax : l0.length ≤ 9223372036854775807 := hr0.2.1
  have HR := Aside0.mk hr0
  clear hr0
  unfold boltingref04_Kids.f at h
  by_cases hout : a1 < -1 ∨ a1 ≥ (l0.length : Int)
  · rw [if_pos hout] at h
    cases h
    rcases hout with hlow | hhigh
    · go_enter Tryd.func13, Tryd.ntmps13
      go_wp2
      go_ret
      exact ⟨_, rfl, Kd.R_of_own (rk_lit w) (fun _ _ => trivial), (Below.refl _ w).alloc (Nat.le_refl _) _⟩
    · have hnl : ¬ a1 < -1 := by omega
      go_enter Tryd.func13, Tryd.ntmps13
      go_wp2
      go_ret
      exact ⟨_, rfl, Kd.R_of_own (rk_lit w) (fun _ _ => trivial), (Below.refl _ w).alloc (Nat.le_refl _) _⟩
  · rw [if_neg hout] at h
    split at h
    case isFalse => cases h
    rename_i hlen
    cases h
    obtain ⟨i0, hi0, hz0, hz1, hz2⟩ := info_parts kids_int
    have h1 : ¬ a1 < -1 := by omega
    have h2 : ¬ a1 ≥ (l0.length : Int) := by omega
    go_enter Tryd.func13, Tryd.ntmps13
    go_wp2
    go_loopw [5, 6, 7] (fun v x _ wr => ∃ k : Nat, x = .int .i64 k ∧ k ≤ l0.length ∧ Aside0 (wr.ownsRow w.heap.size 3 1 v (rkTo l0 a1 k).length ((rkTo l0 a1 k).map (.int .i64))) ∧ Aside0 (Below w.heap.size w wr)) (fun _ x _ _ => l0.length - (intOf x).toNat)
    case atStart => exact ⟨0, rfl, Nat.zero_le _, ⟨rk_lit w⟩, ⟨(Below.refl _ w).alloc (Nat.le_refl _) _⟩⟩
    case round =>
      obtain ⟨k, rfl, hk, HO, HB⟩ := hrel
      by_cases hlt : k < l0.length
      · have hlz : (k : Int) < (l0.length : Int) := by omega
        obtain ⟨x, hx, hxe⟩ := getD_at hlt
        obtain ⟨ad, A4, c4, e, x0, _, _, _, _, _, _⟩ := row_at (Kd.C_below HR.out HB.out) hx
        have hrd : rd_T35 l0 (k : Int) = x := by simp [rd_T35, hx]
        by_cases ha : a1 = -1
        · subst ha
          by_cases hd : x.f0 = 0
          · have HOK := Aside0.mk (show rkOk l0 (-1) k = true by unfold rkOk; rw [if_pos rfl, hrd, hd]; rfl)
            have hd1 : (x.f0 == 0) = true := beq_iff_eq.2 hd
            cases e
            go_wp2_with fail
            go_quiet (fail)
            obtain ⟨W2, hW2⟩ : ∃ W2, wr.drewN nq = W2 := ⟨_, rfl⟩
            have HO2 := Aside0.mk (show W2.ownsRow w.heap.size 3 1 u5 (rkTo l0 (-1) k).length ((rkTo l0 (-1) k).map (.int .i64)) by rw [← hW2]; exact HO.out)
            have HB2 := Aside0.mk (show Below w.heap.size w W2 by rw [← hW2]; exact pw_below_drewN HB.out _)
            rw [hW2]
            clear hW2
            go_wp2_with (at_builtin; refine wpList_append_own _ rfl _ _ 29 rfl w.heap.size 3 i0 (.int .i64 0) 1 8 Tryd.underlying29 hi0 hz0 hz1 hz2 rfl (by decide) _ _ _ rfl (HO2.out.alloc _) ⟨W2.heap.size, 0, none⟩ 1 1 [.int .i64 k] rfl rfl ?c1 ?c2 ?c3 ?c4 ?c5 ?_)
            case c1 =>
              intro j u hj
              match j, hj with
              | 0, hj => simp at hj; subst hj; simp [Addr.add]
            case c2 => intro u hu; simp at hu; subst hu; rfl
            case c3 => unfold maxLen; have := rkTo_length l0 (-1) k; omega
            case c4 => have := rkTo_length l0 (-1) k; omega
            case c5 => have := HB2.out.size; simp; omega
            intro v' w3 hown' hgrow _
            have K1 := Aside0.mk (rk_more HO2.out HB2.out hown' hgrow)
            clear hown' hgrow
            go_wp2
            go_roundw
            case rel => exact ⟨k + 1, rfl, by omega, ⟨by rw [rkTo_yes HOK.out]; exact K1.out.1⟩, ⟨K1.out.2⟩⟩
            case measure => simp [intOf]; omega
          · have HOK := Aside0.mk (show rkOk l0 (-1) k = false by unfold rkOk; rw [if_pos rfl, hrd]; exact beq_eq_false_iff_ne.mpr hd)
            have hd1 : (x.f0 == 0) = false := beq_eq_false_iff_ne.mpr hd
            cases e
            go_wp2_with fail
            go_quiet (fail)
            obtain ⟨W2, hW2⟩ : ∃ W2, wr.drewN nq = W2 := ⟨_, rfl⟩
            have HO2 := Aside0.mk (show W2.ownsRow w.heap.size 3 1 u5 (rkTo l0 (-1) k).length ((rkTo l0 (-1) k).map (.int .i64)) by rw [← hW2]; exact HO.out)
            have HB2 := Aside0.mk (show Below w.heap.size w W2 by rw [← hW2]; exact pw_below_drewN HB.out _)
            rw [hW2]
            clear hW2
            go_wp2
            go_roundw
            case rel => exact ⟨k + 1, by go_num, by omega, ⟨by rw [rkTo_no HOK.out]; exact HO2.out⟩, ⟨HB2.out⟩⟩
            case measure => simp [intOf]; omega
        · obtain ⟨m, rfl⟩ : ∃ m : Nat, a1 = m := ⟨a1.toNat, by omega⟩
          have hneg : ((m : Int) == -1) = false := beq_eq_false_iff_ne.mpr (by omega)
          have hml : m < l0.length := by omega
          obtain ⟨y, hy, hye⟩ := getD_at hml
          obtain ⟨bd, B4, d4, e', y0, _, _, _, _, _, _⟩ := row_at (Kd.C_below HR.out HB.out) hy
          have hrd2 : rd_T35 l0 (m : Int) = y := by simp [rd_T35, hy]
          have hk0 : rkOk l0 (m : Int) k = (decide ((k : Int) > m) && (decide ((k : Int) < rEnd l0 m) && (x.f0 == wrap64 (y.f0 + 1)))) := by unfold rkOk; rw [if_neg (by omega), hrd, hrd2]
          have HE := Aside0.mk (fun V hV => (boltingref04_End.calls _ A0 c0 l0 m _ V (Kd.C_below HR.out hV) hc0 (r4End_is l0 m hmax)).mono (fun _ _ h => And.intro h.1 h.2.out) : ∀ V, Below w.heap.size w V → Calls Tryd.prog 15 #[.slice A0 l0.length c0, .int .i64 m] V fun e w' => e = .returned (.int .i64 (rEnd l0 m)) ∧ ∃ n, w' = V.drewN n)
          rw [e] at e'
          cases e'
          subst e
          generalize rEnd l0 (m : Int) = en at hk0 HE
          by_cases hkm : (m : Int) < (k : Int)
          · have hkm1 : decide (m < k) = true := decide_eq_true (by omega)
            rw [show decide ((k : Int) > m) = true from decide_eq_true hkm, Bool.true_and] at hk0
            by_cases hke : (k : Int) < en
            · have hke1 : decide ((k : Int) < en) = true := decide_eq_true hke
              rw [hke1, Bool.true_and] at hk0
              by_cases hd : x.f0 = wrap64 (y.f0 + 1)
              · have hd1 : (x.f0 == wrap64 (y.f0 + 1)) = true := beq_iff_eq.2 hd
                rw [hd1] at hk0
                have HOK := Aside0.mk hk0
                clear hk0 hrd hrd2 hxe hye hx hy hd
                go_wp2_with fail
                go_quiet (first | (go_at_call 15; refine (HE.out _ (pw_below_drewN HB.out _)).mono fun _ _ h => ⟨h.1, ?_⟩; obtain ⟨q, hq⟩ := h.2; exact ⟨_, by rw [hq, World.drewN_drewN]⟩))
                obtain ⟨W2, hW2⟩ : ∃ W2, wr.drewN nq = W2 := ⟨_, rfl⟩
                have HO2 := Aside0.mk (show W2.ownsRow w.heap.size 3 1 u5 (rkTo l0 (m : Int) k).length ((rkTo l0 (m : Int) k).map (.int .i64)) by rw [← hW2]; exact HO.out)
                have HB2 := Aside0.mk (show Below w.heap.size w W2 by rw [← hW2]; exact pw_below_drewN HB.out _)
                rw [hW2]
                clear hW2
                go_wp2_with (at_builtin; refine wpList_append_own _ rfl _ _ 29 rfl w.heap.size 3 i0 (.int .i64 0) 1 8 Tryd.underlying29 hi0 hz0 hz1 hz2 rfl (by decide) _ _ _ rfl (HO2.out.alloc _) ⟨W2.heap.size, 0, none⟩ 1 1 [.int .i64 k] rfl rfl ?c1 ?c2 ?c3 ?c4 ?c5 ?_)
                case c1 =>
                  intro j u hj
                  match j, hj with
                  | 0, hj => simp at hj; subst hj; simp [Addr.add]
                case c2 => intro u hu; simp at hu; subst hu; rfl
                case c3 => unfold maxLen; have := rkTo_length l0 (m : Int) k; omega
                case c4 => have := rkTo_length l0 (m : Int) k; omega
                case c5 => have := HB2.out.size; simp; omega
                intro v' w3 hown' hgrow _
                have K1 := Aside0.mk (rk_more HO2.out HB2.out hown' hgrow)
                clear hown' hgrow
                go_wp2
                go_roundw
                case rel => exact ⟨k + 1, rfl, by omega, ⟨by rw [rkTo_yes HOK.out]; exact K1.out.1⟩, ⟨K1.out.2⟩⟩
                case measure => simp [intOf]; omega
              · have hd1 : (x.f0 == wrap64 (y.f0 + 1)) = false := beq_eq_false_iff_ne.mpr hd
                rw [hd1] at hk0
                have HOK := Aside0.mk hk0
                clear hk0 hrd hrd2 hxe hye hx hy hd
                go_wp2_with fail
                go_quiet (first | (go_at_call 15; refine (HE.out _ (pw_below_drewN HB.out _)).mono fun _ _ h => ⟨h.1, ?_⟩; obtain ⟨q, hq⟩ := h.2; exact ⟨_, by rw [hq, World.drewN_drewN]⟩))
                obtain ⟨W2, hW2⟩ : ∃ W2, wr.drewN nq = W2 := ⟨_, rfl⟩
                have HO2 := Aside0.mk (show W2.ownsRow w.heap.size 3 1 u5 (rkTo l0 (m : Int) k).length ((rkTo l0 (m : Int) k).map (.int .i64)) by rw [← hW2]; exact HO.out)
                have HB2 := Aside0.mk (show Below w.heap.size w W2 by rw [← hW2]; exact pw_below_drewN HB.out _)
                rw [hW2]
                clear hW2
                go_wp2
                go_roundw
                case rel => exact ⟨k + 1, by go_num, by omega, ⟨by rw [rkTo_no HOK.out]; exact HO2.out⟩, ⟨HB2.out⟩⟩
                case measure => simp [intOf]; omega
            · have hke1 : decide ((k : Int) < en) = false := decide_eq_false hke
              rw [hke1, Bool.false_and] at hk0
              have HOK := Aside0.mk hk0
              clear hk0 hrd hrd2 hxe hye hx hy
              go_wp2_with fail
              go_quiet (first | (go_at_call 15; refine (HE.out _ (pw_below_drewN HB.out _)).mono fun _ _ h => ⟨h.1, ?_⟩; obtain ⟨q, hq⟩ := h.2; exact ⟨_, by rw [hq, World.drewN_drewN]⟩))
              obtain ⟨W2, hW2⟩ : ∃ W2, wr.drewN nq = W2 := ⟨_, rfl⟩
              have HO2 := Aside0.mk (show W2.ownsRow w.heap.size 3 1 u5 (rkTo l0 (m : Int) k).length ((rkTo l0 (m : Int) k).map (.int .i64)) by rw [← hW2]; exact HO.out)
              have HB2 := Aside0.mk (show Below w.heap.size w W2 by rw [← hW2]; exact pw_below_drewN HB.out _)
              rw [hW2]
              clear hW2
              go_wp2
              go_roundw
              case rel => exact ⟨k + 1, by go_num, by omega, ⟨by rw [rkTo_no HOK.out]; exact HO2.out⟩, ⟨HB2.out⟩⟩
              case measure => simp [intOf]; omega
          · have hkm1 : decide (m < k) = false := decide_eq_false (by omega)
            rw [show decide ((k : Int) > m) = false from decide_eq_false hkm, Bool.false_and] at hk0
            have HOK := Aside0.mk hk0
            clear hk0 hrd hrd2 hxe hye hx hy
            go_wp2_with fail
            go_quiet (fail)
            obtain ⟨W2, hW2⟩ : ∃ W2, wr.drewN nq = W2 := ⟨_, rfl⟩
            have HO2 := Aside0.mk (show W2.ownsRow w.heap.size 3 1 u5 (rkTo l0 (m : Int) k).length ((rkTo l0 (m : Int) k).map (.int .i64)) by rw [← hW2]; exact HO.out)
            have HB2 := Aside0.mk (show Below w.heap.size w W2 by rw [← hW2]; exact pw_below_drewN HB.out _)
            rw [hW2]
            clear hW2
            go_wp2
            go_roundw
            case rel => exact ⟨k + 1, by go_num, by omega, ⟨by rw [rkTo_no HOK.out]; exact HO2.out⟩, ⟨HB2.out⟩⟩
            case measure => simp [intOf]; omega
      · obtain rfl : k = l0.length := by omega
        have hlz : ¬ (l0.length : Int) < (l0.length : Int) := by omega
        go_wp2
        go_ret
        exact ⟨_, rfl, Kd.R_of_own HO.out (fun _ _ => trivial), HB.out⟩
end Go.Proofs.YtpnhjipaeggcpaaDoor.X
end
section
namespace Go.Proofs.YtpnhjipaeggcpaaDoor.X
open Go.RowKit Go.Proofs.YtpnhjipaeggcpaaDoorW.PrintWords Go.Proofs.YtpnhjipaeggcpaaDoorW.PrintLast Go.Proofs.YtpnhjipaeggcpaaDoorW.PrintMore
attribute [local go_sem] max2_int min2_int max_two min_two max_three min_three max_four min_four
def boltingref05_Void.f  : Option (List ByteArray) := some (([(⟨#[97, 114, 101, 97]⟩ : ByteArray), (⟨#[98, 97, 115, 101]⟩ : ByteArray), (⟨#[98, 114]⟩ : ByteArray), (⟨#[99, 111, 108]⟩ : ByteArray), (⟨#[101, 109, 98, 101, 100]⟩ : ByteArray), (⟨#[104, 114]⟩ : ByteArray), (⟨#[105, 109, 103]⟩ : ByteArray), (⟨#[105, 110, 112, 117, 116]⟩ : ByteArray), (⟨#[108, 105, 110, 107]⟩ : ByteArray), (⟨#[109, 101, 116, 97]⟩ : ByteArray), (⟨#[112, 97, 114, 97, 109]⟩ : ByteArray), (⟨#[115, 111, 117, 114, 99, 101]⟩ : ByteArray), (⟨#[116, 114, 97, 99, 107]⟩ : ByteArray), (⟨#[119, 98, 114]⟩ : ByteArray)] : List ByteArray))
end Go.Proofs.YtpnhjipaeggcpaaDoor.X
end
section
namespace Go.Proofs.YtpnhjipaeggcpaaDoor.X
open Go.RowKit Go.Proofs.YtpnhjipaeggcpaaDoorW.PrintWords Go.Proofs.YtpnhjipaeggcpaaDoorW.PrintLast Go.Proofs.YtpnhjipaeggcpaaDoorW.PrintMore
attribute [local go_sem] max2_int min2_int max_two min_two max_three min_three max_four min_four
def boltingref05_Raw.f  : Option (List ByteArray) := some (([(⟨#[105, 102, 114, 97, 109, 101]⟩ : ByteArray), (⟨#[110, 111, 101, 109, 98, 101, 100]⟩ : ByteArray), (⟨#[110, 111, 102, 114, 97, 109, 101, 115]⟩ : ByteArray), (⟨#[115, 99, 114, 105, 112, 116]⟩ : ByteArray), (⟨#[115, 116, 121, 108, 101]⟩ : ByteArray), (⟨#[120, 109, 112]⟩ : ByteArray)] : List ByteArray))
end Go.Proofs.YtpnhjipaeggcpaaDoor.X
end
section
namespace Go.Proofs.YtpnhjipaeggcpaaDoor.X
open Go.RowKit Go.Proofs.YtpnhjipaeggcpaaDoorW.PrintWords Go.Proofs.YtpnhjipaeggcpaaDoorW.PrintLast Go.Proofs.YtpnhjipaeggcpaaDoorW.PrintMore
attribute [local go_sem] max2_int min2_int max_two min_two max_three min_three max_four min_four
def boltinglaw08_bound.l0 : Nat → List (S35) → List (S35) → Int → Option ((List (S35)))
 | 0, _, _, _ => none
 | k + 1, x0, x3, x4 => if x4 < (x0.length : Int) then (if x4 < 40 then (if 0 ≤ x4 then (if 0 ≤ (mn (((rd_T35 x0 x4).f4).length : Int) 6) then (if (mn (((rd_T35 x0 x4).f4).length : Int) 6) ≤ (((rd_T35 x0 x4).f4).length : Int) then (if x3.length < 1954687338268 then (boltinglaw08_bound.l0 k x0 (x3 ++ [(⟨(rd_T35 x0 x4).f0, (rd_T35 x0 x4).f1, (rd_T35 x0 x4).f2, (rd_T35 x0 x4).f3, (((rd_T35 x0 x4).f4).take ((mn (((rd_T35 x0 x4).f4).length : Int) 6) : Int).toNat)⟩ : S35)]) (wrap64 (x4 + 1))) else (none)) else (none)) else (none)) else (none)) else (some x3)) else (some x3)
def boltinglaw08_bound.f (k : Nat) (l0 : List (S35)) : Option ((List (S35))) := boltinglaw08_bound.l0 k l0 (([] : List (S35))) 0
set_option maxHeartbeats 8000000 in
set_option maxRecDepth 100000 in
theorem boltinglaw08_bound.calls (k : Nat) (P0_ : Nat → Prop) (A0 : Option Addr) (c0 : Nat) (l0 : List (S35)) (r : List (S35)) (w : World) (hs0 : Kd.V k35 35 w w.heap.size (fun k_ => P0_ k_) (.slice A0 l0.length c0) l0) (h : boltinglaw08_bound.f k l0 = some r) :
  Calls Tryd.prog 6 #[.slice A0 l0.length c0] w fun e w' => ∃ v0_ : Value, e = .returned (v0_) ∧ Kd.N k35 35 w' w.heap.size (fun k_ => (P0_ k_ ∨ w.heap.size ≤ k_)) v0_ r ∧ Below w.heap.size w w' := by
 have hu35 := Tryd.underlying35
 have HO0 := Aside0.mk (show Kd.V k35 35 w w.heap.size (fun k_ => (P0_ k_ ∨ w.heap.size ≤ k_)) (.slice A0 l0.length c0) l0 from Kd.V_mono hs0 (fun k_ hk => .inl hk))
 have HB := Aside0.mk (Below.refl w.heap.size w)
 have H : (boltinglaw08_bound.l0 k l0 (([] : List (S35))) 0) = some r := h
 clear h
 obtain ⟨y101, hy101⟩ : ∃ y_ : List (S35), y_ = (([] : List (S35))) := ⟨_, rfl⟩
 replace H : (boltinglaw08_bound.l0 k l0 y101 0) = some r := by first | (rw [hy101]; with_reducible exact H) | (have H2_ := (Option.bind_some _ _).symm.trans H; rw [hy101]; with_reducible exact H2_) | (have H2_ := (Option.bind_some _ _).symm.trans H; with_reducible exact H2_) | with_reducible exact H | (rw [hy101]; exact H) | exact H
 have Ny101 := Aside0.mk hy101
 clear hy101
 have H' := Aside0.mk H
 clear H
 go_enter Tryd.func6, Tryd.ntmps6
 go_wp2_with (first | ((with_reducible refine gate_dst (N := 6) rfl ?_); refine Kd.N_lit k35 _ 35 ?hg (N' := 6) ?hd (xs := ([] : List (S35))) (inner := []) (ok := (fun k_ => (P0_ k_ ∨ w.heap.size ≤ k_))) (okp := (fun k_ => (P0_ k_ ∨ w.heap.size ≤ k_))) ?hr ?hp (fun _ hk => hk) ((show ∀ k_, w.heap.size ≤ k_ → (fun k_ => (P0_ k_ ∨ w.heap.size ≤ k_)) k_ from fun k_ hk => (.inr (Nat.le_trans (below_size y13_) hk))) _ (Nat.le_refl _)) (Below.refl _ _) (Nat.le_refl _) (by simp) ?_; (case hd => rfl); (case hg => rfl); (case hr => first | (go_simp; done) | (go_simp; rfl)); (case hp => exact (Reps.none _ _)); intro v102 w2 ho3 hb hg_ hnew_; clear hg_ hnew_; (first | rw [← Ny101.out] at ho3 | (simp only [Int.reduceToNat] at ho3; rw [← Ny101.out] at ho3)); have n0_ := Aside0.mk (Kd.V_elder' (y7_ HO0.out) (Kd.N_base ho3) hb); have n1_ := Aside0.mk (Kd.N_lower ho3 (below_size y13_)); have n2_ := Aside0.mk (below_step y13_ hb); clear HO0; clear HB; have HO0 := n0_; have HO103 := n1_; have HB := n2_; clear n0_ n1_ n2_; clear hb ho3))
 go_loopg [3, 4] k (fun kq v3 v4 w' => ∃ (x3_1 : List (S35)) (x4_1 : Int), v4 = .int .i64 x4_1 ∧ Aside0 (boltinglaw08_bound.l0 kq l0 x3_1 x4_1 = some r) ∧ Aside0 (kq ≤ k) ∧ Aside0 (Kd.V k35 35 w' w.heap.size (fun k_ => (P0_ k_ ∨ w.heap.size ≤ k_) ∧ some k_ ≠ (v3 : Value).ownBlock) (.slice A0 l0.length c0) l0) ∧ Aside0 (Kd.N k35 35 w' w.heap.size (fun k_ => (P0_ k_ ∨ w.heap.size ≤ k_)) v3 x3_1) ∧ Aside0 (Below w.heap.size w w'))
 case atStart => exact ⟨(y101), (0), y4_, H', ⟨Nat.le_refl _⟩, ⟨by (with_reducible repeat (first | apply Kd.V_alloc | apply Kd.V_drewN | apply Kd.V_drew)); exact HO0.out⟩, ⟨by (with_reducible repeat (first | apply Kd.N_alloc | apply Kd.N_drewN | apply Kd.N_drew)); exact HO103.out⟩, ⟨y13_⟩⟩
 case round =>
  clear H'
  try clear p2
  obtain ⟨x3_1, x4_1, rfl, HA, HK1, HO_0, HO_3, HB⟩ := hrel
  cases gk with
  | zero => exact absurd HA.out (by simp [boltinglaw08_bound.l0])
  | succ k1 =>
   have H := HA.out
   clear HA
   simp only [boltinglaw08_bound.l0] at H
   by_cases c4 : x4_1 < (l0.length : Int)
   ·rw [if_pos c4] at H
    have c4b0 : decide (x4_1 < (l0.length : Int)) = true := decide_eq_true c4
    clear c4
    by_cases c5 : x4_1 < 40
    ·rw [if_pos c5] at H
     have c5b0 : decide (x4_1 < 40) = true := decide_eq_true c5
     clear c5
     by_cases c6 : 0 ≤ x4_1
     rotate_left
     ·rw [if_neg c6] at H
      exact absurd H (by simp)
     rw [if_pos c6] at H
     have c6b0 : decide (0 ≤ x4_1) = true := decide_eq_true c6
     clear c6
     obtain ⟨ji7, hji7⟩ : ∃ j_ : Int, (mn (((rd_T35 l0 x4_1).f4).length : Int) 6) = j_ := ⟨_, rfl⟩
     replace H : (if 0 ≤ (ji7) then (if (ji7) ≤ (((rd_T35 l0 x4_1).f4).length : Int) then (if x3_1.length < 1954687338268 then (boltinglaw08_bound.l0 k1 l0 (x3_1 ++ [(⟨(rd_T35 l0 x4_1).f0, (rd_T35 l0 x4_1).f1, (rd_T35 l0 x4_1).f2, (rd_T35 l0 x4_1).f3, (((rd_T35 l0 x4_1).f4).take ((ji7) : Int).toNat)⟩ : S35)]) (wrap64 (x4_1 + 1))) else (none)) else (none)) else (none)) = some r := by first | (rw [hji7] at H; exact H) | (simp only [hji7] at H ⊢; exact H)
     have hji7_ : (if 6 < (((rd_T35 l0 x4_1).f4).length : Int) then 6 else (((rd_T35 l0 x4_1).f4).length : Int)) = ji7 := hji7
     by_cases c8 : 0 ≤ (ji7)
     rotate_left
     ·rw [if_neg c8] at H
      exact absurd H (by simp)
     rw [if_pos c8] at H
     have c8b0 := eq_true c8
     have c8b1 : decide (0 ≤ (ji7)) = true := decide_eq_true c8
     clear c8
     by_cases c9 : (ji7) ≤ (((rd_T35 l0 x4_1).f4).length : Int)
     rotate_left
     ·rw [if_neg c9] at H
      exact absurd H (by simp)
     rw [if_pos c9] at H
     have c9b0 := eq_true c9
     have c9b1 : decide ((ji7) ≤ (((rd_T35 l0 x4_1).f4).length : Int)) = true := decide_eq_true c9
     clear c9
     obtain ⟨y106, hy106⟩ : ∃ y_ : List (S41), y_ = (((rd_T35 l0 x4_1).f4).take ((ji7) : Int).toNat) := ⟨_, rfl⟩
     replace H : (if x3_1.length < 1954687338268 then (boltinglaw08_bound.l0 k1 l0 (x3_1 ++ [(⟨(rd_T35 l0 x4_1).f0, (rd_T35 l0 x4_1).f1, (rd_T35 l0 x4_1).f2, (rd_T35 l0 x4_1).f3, y106⟩ : S35)]) (wrap64 (x4_1 + 1))) else (none)) = some r := by first | (rw [hy106]; with_reducible exact H) | (have H2_ := (Option.bind_some _ _).symm.trans H; rw [hy106]; with_reducible exact H2_) | (have H2_ := (Option.bind_some _ _).symm.trans H; with_reducible exact H2_) | with_reducible exact H | (rw [hy106]; exact H) | exact H
     have Ny106 := Aside0.mk hy106
     clear hy106
     by_cases c10 : x3_1.length < 1954687338268
     rotate_left
     ·rw [if_neg c10] at H
      exact absurd H (by simp)
     rw [if_pos c10] at H
     have LMc10 := Aside0.mk c10
     clear c10
     obtain ⟨y111, hy111⟩ : ∃ y_ : List (S35), y_ = (x3_1 ++ [(⟨(rd_T35 l0 x4_1).f0, (rd_T35 l0 x4_1).f1, (rd_T35 l0 x4_1).f2, (rd_T35 l0 x4_1).f3, y106⟩ : S35)]) := ⟨_, rfl⟩
     replace H : (boltinglaw08_bound.l0 k1 l0 y111 (wrap64 (x4_1 + 1))) = some r := by first | (rw [hy111]; with_reducible exact H) | (have H2_ := (Option.bind_some _ _).symm.trans H; rw [hy111]; with_reducible exact H2_) | (have H2_ := (Option.bind_some _ _).symm.trans H; with_reducible exact H2_) | with_reducible exact H | (rw [hy111]; exact H) | exact H
     have Ny111 := Aside0.mk hy111
     clear hy111
     have H' := Aside0.mk H
     clear H
     have p104 : 0 ≤ (x4_1 : Int) := of_decide_eq_true y2_
     have q104 : x4_1 < (l0.length : Int) := of_decide_eq_true y2_
     obtain ⟨ad104, A104_4, c104_4, e104, hx104_0, hx104_1, hx104_2, hx104_3, hx104_4, hl104_4, hi104_4⟩ := at_T35 (Kd.V_reads' HO_0.out).2.2 x4_1 p104 q104
     cases e104
     obtain ⟨ce104, hce104, hMe104, hcc104⟩ := Kd.V_get HO_0.out z35 x4_1 p104 (by first | exact q104 | exact of_decide_eq_true y2_ | (have e_ := (Kd.V_reads' HO_0.out).1; omega))
     obtain ⟨ua104_4, uc104_4, rfl, ul104_4, ge104_4⟩ := k35_openF hMe104
     have hv104_4 := hcc104 4 _ rfl
     rw [add_field _ _ 4 (by omega)] at hv104_4
     replace hv104_4 := Option.some.inj (hv104_4.symm.trans hx104_4)
     injection hv104_4 with hva_ hvn_ hvc_
     rw [hva_] at ge104_4
     rw [hvc_] at ul104_4
     have HL104_4 := Aside0.mk (show Kd.V k41 41 _ w.heap.size _ _ ((rd_T35 l0 x4_1).f4) from Kd.V_mk ul104_4 ge104_4)
     clear hva_ hvn_ hvc_ ge104_4 ul104_4
     clear hcc104 hce104
     have HR104_4 := Aside0.mk hi104_4
     have HC104_4 := Aside0.mk hl104_4
     clear hi104_4 hl104_4
     replace p104 := eq_true p104
     replace q104 := eq_true q104
     go_wp2_with (first | ((with_reducible refine gate_dst (N := 5) rfl ?_); refine box_event ?hg (N := 5) ?hd (cs := #[.int .i64 0, .int .i64 0, .string (⟨#[]⟩ : ByteArray), .string (⟨#[]⟩ : ByteArray), .slice none 0 0]) (t := 35) ?hr ?_; (case hd => rfl); (case hg => rfl); (case hr => first | (go_simp; done) | (go_simp; rfl)); intro gb105 hg w11 hbox hb; have n0_ := Aside0.mk (Kd.V_below (Kd.V_elderB (y7_ HO_0.out) gb105 (Nat.le_of_eq hg.symm)) hb); have n1_ := Aside0.mk (Kd.N_below (Kd.N_elderB (y8_ HO_3.out) gb105 (Nat.le_of_eq hg.symm)) hb); have n2_ := Aside0.mk (Kd.V_below (Kd.V_elderB (y7_ HL104_4.out) gb105 (Nat.le_of_eq hg.symm)) hb); have n3_ := Aside0.mk (Kd.C_below (y20_ HR104_4.out) hb); have n4_ := Aside0.mk (below_step y13_ hb); have n5_ := Aside0.mk (hbox); have n6_ := Aside0.mk ((by rw [hg]; exact (below_size y13_) : w.heap.size ≤ gb105)); have n7_ := Aside0.mk ((by rw [hg]; exact (below_size y13_) : w.heap.size ≤ gb105)); clear HO_0; clear HO_3; clear HL104_4; clear HR104_4; clear HB; have HO_0 := n0_; have HO_3 := n1_; have HL104_4 := n2_; have HR104_4 := n3_; have HB := n4_; have BK105 := n5_; have GW105 := n6_; have GE105 := n7_; clear n0_ n1_ n2_ n3_ n4_ n5_ n6_ n7_; clear hb hbox hg; have hcz12_0 : w11.cell? ⟨gb105, 0, none⟩ = some (.int .i64 0) := (blk_cell BK105.out 0).trans rfl; have hcz12_1 : w11.cell? ⟨gb105, 1, none⟩ = some (.int .i64 0) := (blk_cell BK105.out 1).trans rfl; have hcz12_2 : w11.cell? ⟨gb105, 2, none⟩ = some (.string (⟨#[]⟩ : ByteArray)) := (blk_cell BK105.out 2).trans rfl; have hcz12_3 : w11.cell? ⟨gb105, 3, none⟩ = some (.string (⟨#[]⟩ : ByteArray)) := (blk_cell BK105.out 3).trans rfl; have hcz12_4 : w11.cell? ⟨gb105, 4, none⟩ = some (.slice none 0 0) := (blk_cell BK105.out 4).trans rfl; have hfz12_0 := blk_frozen BK105.out 0; have hfz12_1 := blk_frozen BK105.out 1; have hfz12_2 := blk_frozen BK105.out 2; have hfz12_3 := blk_frozen BK105.out 3; have hfz12_4 := blk_frozen BK105.out 4) | ((with_reducible refine gate_store (t := 35) (p := 5) rfl ?_); refine store_event (t := 35) (p := 5) (v := ?vo_w13) (w1 := (((((w11.setCell ⟨gb105, 0, none⟩ (.int .i64 ((rd_T35 l0 x4_1).f0))).setCell ⟨gb105, 1, none⟩ (.int .i64 ((rd_T35 l0 x4_1).f1))).setCell ⟨gb105, 2, none⟩ (.string ((rd_T35 l0 x4_1).f2))).setCell ⟨gb105, 3, none⟩ (.string ((rd_T35 l0 x4_1).f3))).setCell ⟨gb105, 4, none⟩ (.slice A104_4 ((rd_T35 l0 x4_1).f4).length c104_4))) ?hg ?ho ?hn ?hr ?_; (case ho => rfl); (case hg => rfl); (case hn => rfl); (case hr => first | (go_simp; done) | (go_simp; rfl)); intro w13 hw; have n0_ : Aside0 (Kd.V k35 35 w13 w.heap.size (fun k_ => (P0_ k_ ∨ w.heap.size ≤ k_) ∧ some k_ ≠ (u3 : Value).ownBlock ∧ k_ ≠ gb105) (.slice (some ad104) l0.length c0) l0) := ⟨(by rw [hw]; exact (y32_ HO_0.out))⟩; have n1_ : Aside0 (Kd.N k35 35 w13 w.heap.size (fun k_ => (P0_ k_ ∨ w.heap.size ≤ k_) ∧ k_ ≠ gb105) u3 x3_1) := ⟨(by rw [hw]; exact (by (with_reducible repeat (first | apply Kd.N_alloc | apply Kd.N_drewN | apply Kd.N_drew)); exact Kd.N_mono (Kd.N_far (p := ⟨gb105, 4, none⟩) (Kd.N_far (p := ⟨gb105, 3, none⟩) (Kd.N_far (p := ⟨gb105, 2, none⟩) (Kd.N_far (p := ⟨gb105, 1, none⟩) (Kd.N_far (p := ⟨gb105, 0, none⟩) (Kd.N_mono HO_3.out (fun k_ hk => (⟨hk, hk.2⟩ : _ ∧ k_ ≠ gb105))) (fun _ hk => hk.2) (.int .i64 ((rd_T35 l0 x4_1).f0))) (fun _ hk => hk.2) (.int .i64 ((rd_T35 l0 x4_1).f1))) (fun _ hk => hk.2) (.string ((rd_T35 l0 x4_1).f2))) (fun _ hk => hk.2) (.string ((rd_T35 l0 x4_1).f3))) (fun _ hk => hk.2) (.slice A104_4 ((rd_T35 l0 x4_1).f4).length c104_4)) (fun _ hk => ⟨hk.1.1, hk.1.2⟩)))⟩; have n2_ : Aside0 (Kd.V k41 41 w13 w.heap.size (fun k_ => (P0_ k_ ∨ w.heap.size ≤ k_) ∧ some k_ ≠ (u3 : Value).ownBlock ∧ k_ ≠ gb105) (.slice A104_4 ((rd_T35 l0 x4_1).f4).length c104_4) ((rd_T35 l0 x4_1).f4)) := ⟨(by rw [hw]; exact (y32_ HL104_4.out))⟩; have n3_ : Aside0 (w13.heap[gb105]? = some (.cells #[.int .i64 ((rd_T35 l0 x4_1).f0), .int .i64 ((rd_T35 l0 x4_1).f1), .string ((rd_T35 l0 x4_1).f2), .string ((rd_T35 l0 x4_1).f3), .slice A104_4 ((rd_T35 l0 x4_1).f4).length c104_4] 35 (0, 0))) := ⟨(by rw [hw]; exact (by (with_reducible repeat (first | refine blk_drewN ?_ _ | refine blk_drew ?_ | refine blk_alloc ?_ _)); refine blk_put (cs := #[.int .i64 ((rd_T35 l0 x4_1).f0), .int .i64 ((rd_T35 l0 x4_1).f1), .string ((rd_T35 l0 x4_1).f2), .string ((rd_T35 l0 x4_1).f3), .slice none 0 0]) ?_ 4 _ rfl; (with_reducible repeat (first | refine blk_drewN ?_ _ | refine blk_drew ?_ | refine blk_alloc ?_ _)); refine blk_put (cs := #[.int .i64 ((rd_T35 l0 x4_1).f0), .int .i64 ((rd_T35 l0 x4_1).f1), .string ((rd_T35 l0 x4_1).f2), .string (⟨#[]⟩ : ByteArray), .slice none 0 0]) ?_ 3 _ rfl; (with_reducible repeat (first | refine blk_drewN ?_ _ | refine blk_drew ?_ | refine blk_alloc ?_ _)); refine blk_put (cs := #[.int .i64 ((rd_T35 l0 x4_1).f0), .int .i64 ((rd_T35 l0 x4_1).f1), .string (⟨#[]⟩ : ByteArray), .string (⟨#[]⟩ : ByteArray), .slice none 0 0]) ?_ 2 _ rfl; (with_reducible repeat (first | refine blk_drewN ?_ _ | refine blk_drew ?_ | refine blk_alloc ?_ _)); refine blk_put (cs := #[.int .i64 ((rd_T35 l0 x4_1).f0), .int .i64 0, .string (⟨#[]⟩ : ByteArray), .string (⟨#[]⟩ : ByteArray), .slice none 0 0]) ?_ 1 _ rfl; (with_reducible repeat (first | refine blk_drewN ?_ _ | refine blk_drew ?_ | refine blk_alloc ?_ _)); refine blk_put (cs := #[.int .i64 0, .int .i64 0, .string (⟨#[]⟩ : ByteArray), .string (⟨#[]⟩ : ByteArray), .slice none 0 0]) ?_ 0 _ rfl; (with_reducible repeat (first | refine blk_drewN ?_ _ | refine blk_drew ?_ | refine blk_alloc ?_ _)); exact BK105.out))⟩; have n4_ : Aside0 (Below w.heap.size w w13) := ⟨(by rw [hw]; exact (y19_ GE105.out))⟩; clear hw; clear HO_0; clear HO_3; clear HL104_4; clear BK105; clear HB; have HO_0 := n0_; have HO_3 := n1_; have HL104_4 := n2_; have BK105 := n3_; have HB := n4_; clear n0_ n1_ n2_ n3_ n4_; have hcz14_0 : w13.cell? ⟨gb105, 0, none⟩ = some (.int .i64 ((rd_T35 l0 x4_1).f0)) := (blk_cell BK105.out 0).trans rfl; have hcz14_1 : w13.cell? ⟨gb105, 1, none⟩ = some (.int .i64 ((rd_T35 l0 x4_1).f1)) := (blk_cell BK105.out 1).trans rfl; have hcz14_2 : w13.cell? ⟨gb105, 2, none⟩ = some (.string ((rd_T35 l0 x4_1).f2)) := (blk_cell BK105.out 2).trans rfl; have hcz14_3 : w13.cell? ⟨gb105, 3, none⟩ = some (.string ((rd_T35 l0 x4_1).f3)) := (blk_cell BK105.out 3).trans rfl; have hcz14_4 : w13.cell? ⟨gb105, 4, none⟩ = some (.slice A104_4 ((rd_T35 l0 x4_1).f4).length c104_4) := (blk_cell BK105.out 4).trans rfl; have hfz14_0 := blk_frozen BK105.out 0; have hfz14_1 := blk_frozen BK105.out 1; have hfz14_2 := blk_frozen BK105.out 2; have hfz14_3 := blk_frozen BK105.out 3; have hfz14_4 := blk_frozen BK105.out 4; have q15 : ((ji7) : Int) ≤ ((((rd_T35 l0 x4_1).f4).length : Int) : Int) := of_decide_eq_true y2_; obtain ⟨i015, hi015, _, hsz15, _⟩ := info_parts info41; have hroom15 : ((rd_T35 l0 x4_1).f4).length ≤ c104_4 := HC104_4.out; have hC15 : Kd.F k41 _ _ A104_4 ((rd_T35 l0 x4_1).f4).length ((rd_T35 l0 x4_1).f4) := (Kd.V_at (base := w.heap.size) HL104_4.out).2.2; have hcut15 := cut_to (P := Tryd.prog) 33 41 .i64 Tryd.underlying33 hi015 A104_4 ((rd_T35 l0 x4_1).f4).length c104_4 (ji7) (of_decide_eq_true y2_) q15 hroom15; have hr15 := Kd.F_take (m := ((ji7) : Int).toNat) hC15 (by omega); have hy15 : y106.length = ((ji7) : Int).toNat := (y0_ Ny106.out); rw [← Ny106.out] at hr15; rw [← hy15] at hcut15; have HO110 := Aside0.mk (show Kd.V k41 41 _ w.heap.size _ (.slice A104_4 y106.length c104_4) y106 from Kd.V_mk (by omega) hr15); have HC110 := Aside0.mk (show y106.length ≤ c104_4 from by omega); clear hr15 hC15 hroom15 hi015 hsz15; have KY15 := Aside0.mk hy15; clear hy15; replace q15 := eq_true q15) | ((with_reducible refine gate_store (t := 33) (p := 28) rfl ?_); refine store_event (t := 33) (p := 28) (v := ?vo_w16) (w1 := (w13.setCell ⟨gb105, 4, none⟩ (.slice A104_4 y106.length c104_4))) ?hg ?ho ?hn ?hr ?_; (case ho => rfl); (case hg => rfl); (case hn => rfl); (case hr => first | (go_simp; done) | (go_simp; rfl)); intro w16 hw; have n0_ : Aside0 (Kd.V k35 35 w16 w.heap.size (fun k_ => (P0_ k_ ∨ w.heap.size ≤ k_) ∧ some k_ ≠ (u3 : Value).ownBlock ∧ k_ ≠ gb105) (.slice (some ad104) l0.length c0) l0) := ⟨(by rw [hw]; exact (y27_ HO_0.out))⟩; have n1_ : Aside0 (Kd.N k35 35 w16 w.heap.size (fun k_ => (P0_ k_ ∨ w.heap.size ≤ k_) ∧ k_ ≠ gb105) u3 x3_1) := ⟨(by rw [hw]; exact (by (with_reducible repeat (first | apply Kd.N_alloc | apply Kd.N_drewN | apply Kd.N_drew)); exact Kd.N_mono (Kd.N_far (p := ⟨gb105, 4, none⟩) (Kd.N_mono HO_3.out (fun k_ hk => (⟨hk, hk.2⟩ : _ ∧ k_ ≠ gb105))) (fun _ hk => hk.2) (.slice A104_4 y106.length c104_4)) (fun _ hk => ⟨hk.1.1, hk.1.2⟩)))⟩; have n2_ : Aside0 (Kd.V k41 41 w16 w.heap.size (fun k_ => (P0_ k_ ∨ w.heap.size ≤ k_) ∧ some k_ ≠ (u3 : Value).ownBlock ∧ k_ ≠ gb105) (.slice A104_4 ((rd_T35 l0 x4_1).f4).length c104_4) ((rd_T35 l0 x4_1).f4)) := ⟨(by rw [hw]; exact (y27_ HL104_4.out))⟩; have n3_ : Aside0 (Kd.V k41 41 w16 w.heap.size (fun k_ => (P0_ k_ ∨ w.heap.size ≤ k_) ∧ some k_ ≠ (u3 : Value).ownBlock ∧ k_ ≠ gb105) (.slice A104_4 y106.length c104_4) y106) := ⟨(by rw [hw]; exact (y27_ HO110.out))⟩; have n4_ : Aside0 (w16.heap[gb105]? = some (.cells #[.int .i64 ((rd_T35 l0 x4_1).f0), .int .i64 ((rd_T35 l0 x4_1).f1), .string ((rd_T35 l0 x4_1).f2), .string ((rd_T35 l0 x4_1).f3), .slice A104_4 y106.length c104_4] 35 (0, 0))) := ⟨(by rw [hw]; exact (by (with_reducible repeat (first | refine blk_drewN ?_ _ | refine blk_drew ?_ | refine blk_alloc ?_ _)); refine blk_put (cs := #[.int .i64 ((rd_T35 l0 x4_1).f0), .int .i64 ((rd_T35 l0 x4_1).f1), .string ((rd_T35 l0 x4_1).f2), .string ((rd_T35 l0 x4_1).f3), .slice A104_4 ((rd_T35 l0 x4_1).f4).length c104_4]) ?_ 4 _ rfl; (with_reducible repeat (first | refine blk_drewN ?_ _ | refine blk_drew ?_ | refine blk_alloc ?_ _)); exact BK105.out))⟩; have n5_ : Aside0 (Below w.heap.size w w16) := ⟨(by rw [hw]; exact (y19_ GE105.out))⟩; clear hw; clear HO_0; clear HO_3; clear HL104_4; clear HO110; clear BK105; clear HB; have HO_0 := n0_; have HO_3 := n1_; have HL104_4 := n2_; have HO110 := n3_; have BK105 := n4_; have HB := n5_; clear n0_ n1_ n2_ n3_ n4_ n5_; have hcz17_0 : w16.cell? ⟨gb105, 0, none⟩ = some (.int .i64 ((rd_T35 l0 x4_1).f0)) := (blk_cell BK105.out 0).trans rfl; have hcz17_1 : w16.cell? ⟨gb105, 1, none⟩ = some (.int .i64 ((rd_T35 l0 x4_1).f1)) := (blk_cell BK105.out 1).trans rfl; have hcz17_2 : w16.cell? ⟨gb105, 2, none⟩ = some (.string ((rd_T35 l0 x4_1).f2)) := (blk_cell BK105.out 2).trans rfl; have hcz17_3 : w16.cell? ⟨gb105, 3, none⟩ = some (.string ((rd_T35 l0 x4_1).f3)) := (blk_cell BK105.out 3).trans rfl; have hcz17_4 : w16.cell? ⟨gb105, 4, none⟩ = some (.slice A104_4 y106.length c104_4) := (blk_cell BK105.out 4).trans rfl; have hfz17_0 := blk_frozen BK105.out 0; have hfz17_1 := blk_frozen BK105.out 1; have hfz17_2 := blk_frozen BK105.out 2; have hfz17_3 := blk_frozen BK105.out 3; have hfz17_4 := blk_frozen BK105.out 4) | ((with_reducible refine gate_builtin (b := .append) (xs := #[.tmp 29, .tmp 31]) rfl ?_); at_builtin; refine Kd.N_append k35 (w0 := w) w.heap.size rfl (.tmp 29) (.tmp 31) 22 35 (.agg #[(.int .i64 0), (.int .i64 0), (.string ⟨#[]⟩), (.string ⟨#[]⟩), (.slice none 0 0)]) 72 rfl Tryd.underlying22 info35 rfl (by decide) (by omega) u3 x3_1 (⟨(rd_T35 l0 x4_1).f0, (rd_T35 l0 x4_1).f1, (rd_T35 l0 x4_1).f2, (rd_T35 l0 x4_1).f3, y106⟩ : S35) [.int .i64 ((rd_T35 l0 x4_1).f0), .int .i64 ((rd_T35 l0 x4_1).f1), .string ((rd_T35 l0 x4_1).f2), .string ((rd_T35 l0 x4_1).f3), .slice A104_4 y106.length c104_4] (fun k_ => (P0_ k_ ∨ w.heap.size ≤ k_) ∧ k_ ≠ gb105) (fun k_ => ((fun k_ => (P0_ k_ ∨ w.heap.size ≤ k_) ∧ k_ ≠ gb105)) k_ ∧ some k_ ≠ (u3 : Value).ownBlock) rfl rfl ?aP (fun _ hk => hk) ?aF ?aO ?aB ?aS ?aL ?_; (case aP => exact (k35_mkF _ _ (⟨(rd_T35 l0 x4_1).f0, (rd_T35 l0 x4_1).f1, (rd_T35 l0 x4_1).f2, (rd_T35 l0 x4_1).f3, y106⟩ : S35) (Kd.V_reads' (Kd.V_mono (ok' := (fun k_ => ((fun k_ => (P0_ k_ ∨ w.heap.size ≤ k_) ∧ k_ ≠ gb105)) k_ ∧ some k_ ≠ (u3 : Value).ownBlock)) (HO110.out) (fun k_ hk => ⟨⟨hk.1, hk.2.2⟩, hk.2.1⟩))).2.1 (Kd.V_F (Kd.V_mono (ok' := (fun k_ => ((fun k_ => (P0_ k_ ∨ w.heap.size ≤ k_) ∧ k_ ≠ gb105)) k_ ∧ some k_ ≠ (u3 : Value).ownBlock)) (HO110.out) (fun k_ hk => ⟨⟨hk.1, hk.2.2⟩, hk.2.1⟩))))); (case aB => exact (y19_ GE105.out)); (case aF => exact (fun k_ hk => ⟨(.inr (Nat.le_trans (below_size (y19_ GE105.out)) hk)), Kd.freshB (g := gb105) (o := .cells #[.int .i64 ((rd_T35 l0 x4_1).f0), .int .i64 ((rd_T35 l0 x4_1).f1), .string ((rd_T35 l0 x4_1).f2), .string ((rd_T35 l0 x4_1).f3), .slice A104_4 y106.length c104_4] 35 (0, 0)) (y11_ BK105.out) k_ hk⟩)); (case aO => exact (y8_ HO_3.out)); (case aS => exact (below_size (y19_ GE105.out))); (case aL => have := LMc10.out; first | omega | exact Nat.le_of_lt this); intro v112 w18 ho hb hg hat; rw [← Ny111.out] at ho; have n0_ := Aside0.mk (Kd.V_afterv (ok := (fun k_ => (P0_ k_ ∨ w.heap.size ≤ k_) ∧ k_ ≠ gb105)) (y17_ HO_0.out) hg hat); have n1_ := Aside0.mk (Kd.V_afterv (ok := (fun k_ => (P0_ k_ ∨ w.heap.size ≤ k_) ∧ k_ ≠ gb105)) (y17_ HL104_4.out) hg hat); have n2_ := Aside0.mk (blk_grown (g := gb105) (o := .cells #[.int .i64 ((rd_T35 l0 x4_1).f0), .int .i64 ((rd_T35 l0 x4_1).f1), .string ((rd_T35 l0 x4_1).f2), .string ((rd_T35 l0 x4_1).f3), .slice A104_4 y106.length c104_4] 35 (0, 0)) (y11_ BK105.out) hg (Kd.N_away HO_3.out (fun _ hk => hk.2))); have n3_ := Aside0.mk (Kd.V_afterv (ok := (fun k_ => (P0_ k_ ∨ w.heap.size ≤ k_) ∧ k_ ≠ gb105)) (y17_ HO110.out) hg hat); have n4_ := Aside0.mk (hb); have n5_ := Aside0.mk (ho); clear HO_0; clear HL104_4; clear BK105; clear HO110; clear HB; clear HO_3; have HO_0 := n0_; have HL104_4 := n1_; have BK105 := n2_; have HO110 := n3_; have HB := n4_; have HO113 := n5_; clear n0_ n1_ n2_ n3_ n4_ n5_; clear ho hb hg hat))
     go_roundg k1
     case measure => have := HK1.out; omega
     case rel => exact ⟨(y111), (wrap64 (x4_1 + 1)), y4_, H', ⟨by have := HK1.out; omega⟩, ⟨by (with_reducible repeat (first | apply Kd.V_alloc | apply Kd.V_drewN | apply Kd.V_drew)); exact Kd.V_mono HO_0.out (fun _ hk => ⟨hk.1.1, hk.2⟩)⟩, ⟨by (with_reducible repeat (first | apply Kd.N_alloc | apply Kd.N_drewN | apply Kd.N_drew)); exact Kd.N_mono HO113.out (fun _ hk => hk.1)⟩, ⟨(y19_ GE105.out)⟩⟩
    ·rw [if_neg c5] at H
     have c5b0 : decide (x4_1 < 40) = false := decide_eq_false c5
     clear c5
     obtain rfl := Option.some.inj H
     go_wp2
     go_ret
     exact ⟨_, y12_, by (with_reducible repeat (first | apply Kd.N_alloc | apply Kd.N_drewN | apply Kd.N_drew)); exact HO_3.out, y13_⟩
   ·rw [if_neg c4] at H
    have c4b0 : decide (x4_1 < (l0.length : Int)) = false := decide_eq_false c4
    clear c4
    obtain rfl := Option.some.inj H
    go_wp2
    go_ret
    exact ⟨_, y12_, by (with_reducible repeat (first | apply Kd.N_alloc | apply Kd.N_drewN | apply Kd.N_drew)); exact HO_3.out, y13_⟩
end Go.Proofs.YtpnhjipaeggcpaaDoor.X
end
section
namespace Go.Proofs.YtpnhjipaeggcpaaDoor.X
open Go.RowKit Go.Proofs.YtpnhjipaeggcpaaDoorW.PrintWords Go.Proofs.YtpnhjipaeggcpaaDoorW.PrintLast Go.Proofs.YtpnhjipaeggcpaaDoorW.PrintMore
attribute [local go_sem] max2_int min2_int max_two min_two max_three min_three max_four min_four
def boltingref04_Moved.l0 : Nat → List (S35) → Int → List (S35) → Int → Option ((List (S35)))
 | 0, _, _, _, _ => none
 | k + 1, x0, x1, x5, x6 => if x6 < (x0.length : Int) then (if 0 ≤ x6 then ((some (([] : List (S41)) : List (S41))).bind fun y218 => (if y218.length + ((rd_T35 x0 x6).f4).length < 4398046511104 then (if x5.length < 1954687338268 then (boltingref04_Moved.l0 k x0 x1 (x5 ++ [(⟨wrap64 (((rd_T35 x0 x6).f0) + x1), (rd_T35 x0 x6).f1, (rd_T35 x0 x6).f2, (rd_T35 x0 x6).f3, (y218 ++ ((rd_T35 x0 x6).f4))⟩ : S35)]) (wrap64 (x6 + 1))) else (none)) else (none))) else (none)) else (some x5)
def boltingref04_Moved.f (k : Nat) (l0 : List (S35)) (a1 : Int) : Option ((List (S35))) := boltingref04_Moved.l0 k l0 a1 (([] : List (S35))) 0
set_option maxHeartbeats 8000000 in
set_option maxRecDepth 100000 in
theorem boltingref04_Moved.calls (k : Nat) (A0 : Option Addr) (c0 : Nat) (l0 : List (S35)) (a1 : Int) (r : List (S35)) (w : World) (hr0 : Kd.C k35 w A0 l0.length l0) (hc0 : l0.length ≤ c0) (h : boltingref04_Moved.f k l0 a1 = some r) :
  Calls Tryd.prog 14 #[.slice A0 l0.length c0, .int .i64 a1] w fun e w' => ∃ v0_ : Value, e = .returned (v0_) ∧ Kd.S k35 35 w' w.heap.size (fun _ => True) v0_ r ∧ Below w.heap.size w w' := by
 have hu35 := Tryd.underlying35
 have HR0 := Aside0.mk hr0
 have HC0 := Aside0.mk hc0
 clear hr0 hc0
 have HB := Aside0.mk (Below.refl w.heap.size w)
 have H : (boltingref04_Moved.l0 k l0 a1 (([] : List (S35))) 0) = some r := h
 clear h
 obtain ⟨y213, hy213⟩ : ∃ y_ : List (S35), y_ = (([] : List (S35))) := ⟨_, rfl⟩
 replace H : (boltingref04_Moved.l0 k l0 a1 y213 0) = some r := by first | (rw [hy213]; with_reducible exact H) | (have H2_ := (Option.bind_some _ _).symm.trans H; rw [hy213]; with_reducible exact H2_) | (have H2_ := (Option.bind_some _ _).symm.trans H; with_reducible exact H2_) | with_reducible exact H | (rw [hy213]; exact H) | exact H
 have Ny213 := Aside0.mk hy213
 clear hy213
 have H' := Aside0.mk H
 clear H
 go_enter Tryd.func14, Tryd.ntmps14
 go_wp2_with (first | ((with_reducible refine gate_dst (N := 8) rfl ?_); refine Kd.S_lit k35 _ 35 ?hg (N := 8) ?hd (xs := ([] : List (S35))) (inner := []) (ok := fun _ => True) (okp := fun _ => True) ?hr ?hp (fun _ hk => hk) trivial (Below.refl _ _) (Nat.le_refl _) (by simp) ?_; (case hd => rfl); (case hg => rfl); (case hr => first | (go_simp; done) | (go_simp; rfl)); (case hp => exact (Reps.none _ _)); intro v214 w3 ho4 hb hg_ hnew_; clear hg_ hnew_; (first | rw [← Ny213.out] at ho4 | (simp only [Int.reduceToNat] at ho4; rw [← Ny213.out] at ho4)); have n0_ := Aside0.mk (Kd.S_lower ho4 (below_size y13_)); have n1_ := Aside0.mk (below_step y13_ hb); clear HB; have HO215 := n0_; have HB := n1_; clear n0_ n1_; clear hb ho4))
 go_loopg [5, 6] k (fun kq v5 v6 w' => ∃ (x5_1 : List (S35)) (x6_1 : Int), v6 = .int .i64 x6_1 ∧ Aside0 (boltingref04_Moved.l0 kq l0 a1 x5_1 x6_1 = some r) ∧ Aside0 (kq ≤ k) ∧ Aside0 (Kd.S k35 35 w' w.heap.size (fun _ => True) v5 x5_1) ∧ Aside0 (Below w.heap.size w w'))
 case atStart => exact ⟨(y213), (0), y4_, H', ⟨Nat.le_refl _⟩, ⟨by (with_reducible repeat (first | apply Kd.S_alloc | apply Kd.S_drewN | apply Kd.S_drew)); exact HO215.out⟩, ⟨y13_⟩⟩
 case round =>
  clear H'
  try clear c1
  try clear p2
  obtain ⟨x5_1, x6_1, rfl, HA, HK1, HO_5, HB⟩ := hrel
  cases gk with
  | zero => exact absurd HA.out (by simp [boltingref04_Moved.l0])
  | succ k1 =>
   have H := HA.out
   clear HA
   simp only [boltingref04_Moved.l0] at H
   by_cases c5 : x6_1 < (l0.length : Int)
   ·rw [if_pos c5] at H
    have c5b0 : decide (x6_1 < (l0.length : Int)) = true := decide_eq_true c5
    clear c5
    by_cases c6 : 0 ≤ x6_1
    rotate_left
    ·rw [if_neg c6] at H
     exact absurd H (by simp)
    rw [if_pos c6] at H
    have c6b0 : decide (0 ≤ x6_1) = true := decide_eq_true c6
    clear c6
    obtain ⟨y218, hy218⟩ : ∃ y_ : List (S41), y_ = (([] : List (S41))) := ⟨_, rfl⟩
    replace H : (if y218.length + ((rd_T35 l0 x6_1).f4).length < 4398046511104 then (if x5_1.length < 1954687338268 then (boltingref04_Moved.l0 k1 l0 a1 (x5_1 ++ [(⟨wrap64 (((rd_T35 l0 x6_1).f0) + a1), (rd_T35 l0 x6_1).f1, (rd_T35 l0 x6_1).f2, (rd_T35 l0 x6_1).f3, (y218 ++ ((rd_T35 l0 x6_1).f4))⟩ : S35)]) (wrap64 (x6_1 + 1))) else (none)) else (none)) = some r := by first | (rw [hy218]; with_reducible exact H) | (have H2_ := (Option.bind_some _ _).symm.trans H; rw [hy218]; with_reducible exact H2_) | (have H2_ := (Option.bind_some _ _).symm.trans H; with_reducible exact H2_) | with_reducible exact H | (rw [hy218]; exact H) | exact H
    have Ny218 := Aside0.mk hy218
    clear hy218
    by_cases c7 : y218.length + ((rd_T35 l0 x6_1).f4).length < 4398046511104
    rotate_left
    ·rw [if_neg c7] at H
     exact absurd H (by simp)
    rw [if_pos c7] at H
    have LMc7 := Aside0.mk c7
    clear c7
    obtain ⟨y221, hy221⟩ : ∃ y_ : List (S41), y_ = (y218 ++ ((rd_T35 l0 x6_1).f4)) := ⟨_, rfl⟩
    replace H : (if x5_1.length < 1954687338268 then (boltingref04_Moved.l0 k1 l0 a1 (x5_1 ++ [(⟨wrap64 (((rd_T35 l0 x6_1).f0) + a1), (rd_T35 l0 x6_1).f1, (rd_T35 l0 x6_1).f2, (rd_T35 l0 x6_1).f3, y221⟩ : S35)]) (wrap64 (x6_1 + 1))) else (none)) = some r := by first | (rw [hy221]; with_reducible exact H) | (have H2_ := (Option.bind_some _ _).symm.trans H; rw [hy221]; with_reducible exact H2_) | (have H2_ := (Option.bind_some _ _).symm.trans H; with_reducible exact H2_) | with_reducible exact H | (rw [hy221]; exact H) | exact H
    have Ny221 := Aside0.mk hy221
    clear hy221
    by_cases c8 : x5_1.length < 1954687338268
    rotate_left
    ·rw [if_neg c8] at H
     exact absurd H (by simp)
    rw [if_pos c8] at H
    have LMc8 := Aside0.mk c8
    clear c8
    obtain ⟨y224, hy224⟩ : ∃ y_ : List (S35), y_ = (x5_1 ++ [(⟨wrap64 (((rd_T35 l0 x6_1).f0) + a1), (rd_T35 l0 x6_1).f1, (rd_T35 l0 x6_1).f2, (rd_T35 l0 x6_1).f3, y221⟩ : S35)]) := ⟨_, rfl⟩
    replace H : (boltingref04_Moved.l0 k1 l0 a1 y224 (wrap64 (x6_1 + 1))) = some r := by first | (rw [hy224]; with_reducible exact H) | (have H2_ := (Option.bind_some _ _).symm.trans H; rw [hy224]; with_reducible exact H2_) | (have H2_ := (Option.bind_some _ _).symm.trans H; with_reducible exact H2_) | with_reducible exact H | (rw [hy224]; exact H) | exact H
    have Ny224 := Aside0.mk hy224
    clear hy224
    have H' := Aside0.mk H
    clear H
    have p216 : 0 ≤ (x6_1 : Int) := of_decide_eq_true y2_
    have q216 : x6_1 < (l0.length : Int) := of_decide_eq_true y2_
    obtain ⟨ad216, A216_4, c216_4, e216, hx216_0, hx216_1, hx216_2, hx216_3, hx216_4, hl216_4, hi216_4⟩ := at_T35 HR0.out x6_1 p216 q216
    cases e216
    replace hx216_0 := (HB.out.cell (World.block_lt_of_cell? w _ hx216_0)).trans hx216_0
    replace hx216_1 := (HB.out.cell (World.block_lt_of_cell? w _ hx216_1)).trans hx216_1
    replace hx216_2 := (HB.out.cell (World.block_lt_of_cell? w _ hx216_2)).trans hx216_2
    replace hx216_3 := (HB.out.cell (World.block_lt_of_cell? w _ hx216_3)).trans hx216_3
    replace hx216_4 := (HB.out.cell (World.block_lt_of_cell? w _ hx216_4)).trans hx216_4
    have HR216_4 := Aside0.mk hi216_4
    have HC216_4 := Aside0.mk hl216_4
    clear hi216_4 hl216_4
    replace p216 := eq_true p216
    replace q216 := eq_true q216
    go_wp2_with (first | ((with_reducible refine gate_dst (N := 7) rfl ?_); refine box_event ?hg (N := 7) ?hd (cs := #[.int .i64 0, .int .i64 0, .string (⟨#[]⟩ : ByteArray), .string (⟨#[]⟩ : ByteArray), .slice none 0 0]) (t := 35) ?hr ?_; (case hd => rfl); (case hg => rfl); (case hr => first | (go_simp; done) | (go_simp; rfl)); intro gb217 hg w9 hbox hb; have n0_ := Aside0.mk (Kd.S_below (Kd.S_elderB (y9_ HO_5.out) gb217 (Nat.le_of_eq hg.symm)) hb); have n1_ := Aside0.mk (below_step y13_ hb); have n2_ := Aside0.mk (hbox); have n3_ := Aside0.mk ((by rw [hg]; exact (below_size y13_) : w.heap.size ≤ gb217)); have n4_ := Aside0.mk ((by rw [hg]; exact (below_size y13_) : w.heap.size ≤ gb217)); clear HO_5; clear HB; have HO_5 := n0_; have HB := n1_; have BK217 := n2_; have GW217 := n3_; have GE217 := n4_; clear n0_ n1_ n2_ n3_ n4_; clear hb hbox hg; have hcz10_0 : w9.cell? ⟨gb217, 0, none⟩ = some (.int .i64 0) := (blk_cell BK217.out 0).trans rfl; have hcz10_1 : w9.cell? ⟨gb217, 1, none⟩ = some (.int .i64 0) := (blk_cell BK217.out 1).trans rfl; have hcz10_2 : w9.cell? ⟨gb217, 2, none⟩ = some (.string (⟨#[]⟩ : ByteArray)) := (blk_cell BK217.out 2).trans rfl; have hcz10_3 : w9.cell? ⟨gb217, 3, none⟩ = some (.string (⟨#[]⟩ : ByteArray)) := (blk_cell BK217.out 3).trans rfl; have hcz10_4 : w9.cell? ⟨gb217, 4, none⟩ = some (.slice none 0 0) := (blk_cell BK217.out 4).trans rfl; have hfz10_0 := blk_frozen BK217.out 0; have hfz10_1 := blk_frozen BK217.out 1; have hfz10_2 := blk_frozen BK217.out 2; have hfz10_3 := blk_frozen BK217.out 3; have hfz10_4 := blk_frozen BK217.out 4) | ((with_reducible refine gate_dst (N := 24) rfl ?_); refine Kd.R_lit k41 _ 41 ?hg (N := 24) ?hd (xs := ([] : List (S41))) (inner := []) (ok := fun _ => True) (okp := fun _ => True) ?hr ?hp (fun _ hk => hk) trivial (Below.refl _ _) (Nat.le_refl _) (by simp) ?_; (case hd => rfl); (case hg => rfl); (case hr => first | (go_simp; done) | (go_simp; rfl)); (case hp => exact (Reps.none _ _)); intro v219 w11 ho12 hb hg_ hnew_; clear hg_ hnew_; (first | rw [← Ny218.out] at ho12 | (simp only [Int.reduceToNat] at ho12; rw [← Ny218.out] at ho12)); have n0_ := Aside0.mk (Kd.S_elder' (by (with_reducible repeat (first | apply Kd.S_alloc | apply Kd.S_drewN | apply Kd.S_drew)); exact (Kd.S_mono (Kd.S_far (p := ⟨gb217, 0, none⟩) (Kd.S_far (p := ⟨gb217, 4, none⟩) (Kd.S_far (p := ⟨gb217, 3, none⟩) (Kd.S_far (p := ⟨gb217, 2, none⟩) (Kd.S_far (p := ⟨gb217, 1, none⟩) (Kd.S_far (p := ⟨gb217, 0, none⟩) (Kd.S_mono HO_5.out (fun k_ hk => (⟨hk, hk.2⟩ : _ ∧ k_ ≠ gb217))) (fun _ hk => hk.2) (.int .i64 ((rd_T35 l0 x6_1).f0))) (fun _ hk => hk.2) (.int .i64 ((rd_T35 l0 x6_1).f1))) (fun _ hk => hk.2) (.string ((rd_T35 l0 x6_1).f2))) (fun _ hk => hk.2) (.string ((rd_T35 l0 x6_1).f3))) (fun _ hk => hk.2) (.slice A216_4 ((rd_T35 l0 x6_1).f4).length c216_4)) (fun _ hk => hk.2) (.int .i64 (wrap64 (((rd_T35 l0 x6_1).f0) + a1)))) (fun _ h_ => h_.1))) (Kd.R_base ho12) hb); have n1_ := Aside0.mk (Kd.R_lower ho12 (below_size (y19_ GE217.out))); have n2_ := Aside0.mk (blk_below (g := gb217) (o := .cells #[.int .i64 (wrap64 (((rd_T35 l0 x6_1).f0) + a1)), .int .i64 ((rd_T35 l0 x6_1).f1), .string ((rd_T35 l0 x6_1).f2), .string ((rd_T35 l0 x6_1).f3), .slice A216_4 ((rd_T35 l0 x6_1).f4).length c216_4] 35 (0, 0)) (by (with_reducible repeat (first | refine blk_drewN ?_ _ | refine blk_drew ?_ | refine blk_alloc ?_ _)); refine blk_put (cs := #[.int .i64 ((rd_T35 l0 x6_1).f0), .int .i64 ((rd_T35 l0 x6_1).f1), .string ((rd_T35 l0 x6_1).f2), .string ((rd_T35 l0 x6_1).f3), .slice A216_4 ((rd_T35 l0 x6_1).f4).length c216_4]) ?_ 0 _ rfl; (with_reducible repeat (first | refine blk_drewN ?_ _ | refine blk_drew ?_ | refine blk_alloc ?_ _)); refine blk_put (cs := #[.int .i64 ((rd_T35 l0 x6_1).f0), .int .i64 ((rd_T35 l0 x6_1).f1), .string ((rd_T35 l0 x6_1).f2), .string ((rd_T35 l0 x6_1).f3), .slice none 0 0]) ?_ 4 _ rfl; (with_reducible repeat (first | refine blk_drewN ?_ _ | refine blk_drew ?_ | refine blk_alloc ?_ _)); refine blk_put (cs := #[.int .i64 ((rd_T35 l0 x6_1).f0), .int .i64 ((rd_T35 l0 x6_1).f1), .string ((rd_T35 l0 x6_1).f2), .string (⟨#[]⟩ : ByteArray), .slice none 0 0]) ?_ 3 _ rfl; (with_reducible repeat (first | refine blk_drewN ?_ _ | refine blk_drew ?_ | refine blk_alloc ?_ _)); refine blk_put (cs := #[.int .i64 ((rd_T35 l0 x6_1).f0), .int .i64 ((rd_T35 l0 x6_1).f1), .string (⟨#[]⟩ : ByteArray), .string (⟨#[]⟩ : ByteArray), .slice none 0 0]) ?_ 2 _ rfl; (with_reducible repeat (first | refine blk_drewN ?_ _ | refine blk_drew ?_ | refine blk_alloc ?_ _)); refine blk_put (cs := #[.int .i64 ((rd_T35 l0 x6_1).f0), .int .i64 0, .string (⟨#[]⟩ : ByteArray), .string (⟨#[]⟩ : ByteArray), .slice none 0 0]) ?_ 1 _ rfl; (with_reducible repeat (first | refine blk_drewN ?_ _ | refine blk_drew ?_ | refine blk_alloc ?_ _)); refine blk_put (cs := #[.int .i64 0, .int .i64 0, .string (⟨#[]⟩ : ByteArray), .string (⟨#[]⟩ : ByteArray), .slice none 0 0]) ?_ 0 _ rfl; (with_reducible repeat (first | refine blk_drewN ?_ _ | refine blk_drew ?_ | refine blk_alloc ?_ _)); exact BK217.out) hb); have n3_ := Aside0.mk (below_step (y19_ GE217.out) hb); clear HO_5; clear BK217; clear HB; have HO_5 := n0_; have HO220 := n1_; have BK217 := n2_; have HB := n3_; clear n0_ n1_ n2_ n3_; clear hb ho12; have hcz13_0 : w11.cell? ⟨gb217, 0, none⟩ = some (.int .i64 (wrap64 (((rd_T35 l0 x6_1).f0) + a1))) := (blk_cell BK217.out 0).trans rfl; have hcz13_1 : w11.cell? ⟨gb217, 1, none⟩ = some (.int .i64 ((rd_T35 l0 x6_1).f1)) := (blk_cell BK217.out 1).trans rfl; have hcz13_2 : w11.cell? ⟨gb217, 2, none⟩ = some (.string ((rd_T35 l0 x6_1).f2)) := (blk_cell BK217.out 2).trans rfl; have hcz13_3 : w11.cell? ⟨gb217, 3, none⟩ = some (.string ((rd_T35 l0 x6_1).f3)) := (blk_cell BK217.out 3).trans rfl; have hcz13_4 : w11.cell? ⟨gb217, 4, none⟩ = some (.slice A216_4 ((rd_T35 l0 x6_1).f4).length c216_4) := (blk_cell BK217.out 4).trans rfl; have hfz13_0 := blk_frozen BK217.out 0; have hfz13_1 := blk_frozen BK217.out 1; have hfz13_2 := blk_frozen BK217.out 2; have hfz13_3 := blk_frozen BK217.out 3; have hfz13_4 := blk_frozen BK217.out 4) | ((with_reducible refine gate_builtin (b := .append) (xs := #[.tmp 24, .tmp 26]) rfl ?_); at_builtin; refine Kd.R_append_rows k41 (w0 := w) w.heap.size rfl (.tmp 24) (.tmp 26) 33 41 (.agg #[(.string ⟨#[]⟩), (.string ⟨#[]⟩)]) 32 rfl Tryd.underlying33 info41 rfl (by decide) (by omega) v219 y218 ((rd_T35 l0 x6_1).f4) _ _ _ (fun _ => True) (fun _ => False) rfl rfl ?aO ?aR (fun _ _ h => h) (fun _ h => h.elim) ?aF ?aB ?aS ?aL ?_; (case aR => repeat (first | exact (Kd.C_below HR216_4.out HB.out) | (with_reducible refine Kd.C_alloc ?_ _) | (with_reducible refine Kd.C_drewN ?_ _) | (with_reducible refine Kd.C_drew ?_))); (case aB => exact (y19_ GE217.out)); (case aF => exact (fun _ _ => trivial)); (case aO => exact (y10_ HO220.out)); (case aS => exact (below_size (y19_ GE217.out))); (case aL => have := LMc7.out; first | omega | exact Nat.le_of_lt this); intro v222 w14 ho hb hg hat; rw [← Ny221.out] at ho; have n0_ := Aside0.mk (Kd.S_after (ok := (fun k_ => k_ ≠ gb217)) (by (with_reducible repeat (first | apply Kd.S_alloc | apply Kd.S_drewN | apply Kd.S_drew)); exact Kd.S_mono HO_5.out (fun _ hk => ⟨hk.1.2, hk.2⟩)) hg hat); have n1_ := Aside0.mk (blk_grown (g := gb217) (o := .cells #[.int .i64 (wrap64 (((rd_T35 l0 x6_1).f0) + a1)), .int .i64 ((rd_T35 l0 x6_1).f1), .string ((rd_T35 l0 x6_1).f2), .string ((rd_T35 l0 x6_1).f3), .slice A216_4 ((rd_T35 l0 x6_1).f4).length c216_4] 35 (0, 0)) (y11_ BK217.out) hg (Kd.R_ne HO220.out BK217.out (by decide))); have n2_ := Aside0.mk (hb); have n3_ := Aside0.mk (ho); clear HO_5; clear BK217; clear HB; clear HO220; have HO_5 := n0_; have BK217 := n1_; have HB := n2_; have HO223 := n3_; clear n0_ n1_ n2_ n3_; clear ho hb hg hat; obtain ⟨Ao15, co15, eo15⟩ := Kd.R_slice HO223.out; subst eo15; have hcz16_0 : w14.cell? ⟨gb217, 0, none⟩ = some (.int .i64 (wrap64 (((rd_T35 l0 x6_1).f0) + a1))) := (blk_cell BK217.out 0).trans rfl; have hcz16_1 : w14.cell? ⟨gb217, 1, none⟩ = some (.int .i64 ((rd_T35 l0 x6_1).f1)) := (blk_cell BK217.out 1).trans rfl; have hcz16_2 : w14.cell? ⟨gb217, 2, none⟩ = some (.string ((rd_T35 l0 x6_1).f2)) := (blk_cell BK217.out 2).trans rfl; have hcz16_3 : w14.cell? ⟨gb217, 3, none⟩ = some (.string ((rd_T35 l0 x6_1).f3)) := (blk_cell BK217.out 3).trans rfl; have hcz16_4 : w14.cell? ⟨gb217, 4, none⟩ = some (.slice A216_4 ((rd_T35 l0 x6_1).f4).length c216_4) := (blk_cell BK217.out 4).trans rfl; have hfz16_0 := blk_frozen BK217.out 0; have hfz16_1 := blk_frozen BK217.out 1; have hfz16_2 := blk_frozen BK217.out 2; have hfz16_3 := blk_frozen BK217.out 3; have hfz16_4 := blk_frozen BK217.out 4) | ((with_reducible refine gate_store (t := 33) (p := 28) rfl ?_); refine store_event (t := 33) (p := 28) (v := ?vo_w17) (w1 := (w14.setCell ⟨gb217, 4, none⟩ (.slice Ao15 y221.length co15))) ?hg ?ho ?hn ?hr ?_; (case ho => rfl); (case hg => rfl); (case hn => rfl); (case hr => first | (go_simp; done) | (go_simp; rfl)); intro w17 hw; have n0_ : Aside0 (Kd.S k35 35 w17 w.heap.size (fun k_ => some k_ ≠ (.slice Ao15 y221.length co15 : Value).ownBlock ∧ k_ ≠ gb217) u5 x5_1) := ⟨(by rw [hw]; exact (by (with_reducible repeat (first | apply Kd.S_alloc | apply Kd.S_drewN | apply Kd.S_drew)); exact Kd.S_mono (Kd.S_far (p := ⟨gb217, 4, none⟩) (Kd.S_mono HO_5.out (fun k_ hk => (⟨hk, hk.1⟩ : _ ∧ k_ ≠ gb217))) (fun _ hk => hk.2) (.slice Ao15 y221.length co15)) (fun _ hk => ⟨hk.1.2, hk.1.1⟩)))⟩; have n1_ : Aside0 (Kd.R k41 41 w17 w.heap.size (fun _ => True) (.slice Ao15 y221.length co15) y221) := ⟨(by rw [hw]; exact (by (with_reducible repeat (first | apply Kd.R_alloc | apply Kd.R_drewN | apply Kd.R_drew)); exact Kd.R_mono (Kd.R_far (p := ⟨gb217, 4, none⟩) (Kd.R_types HO223.out BK217.out (by decide)) (fun _ hk => hk.2) (.slice Ao15 y221.length co15)) (fun _ hk => trivial)))⟩; have n2_ : Aside0 (w17.heap[gb217]? = some (.cells #[.int .i64 (wrap64 (((rd_T35 l0 x6_1).f0) + a1)), .int .i64 ((rd_T35 l0 x6_1).f1), .string ((rd_T35 l0 x6_1).f2), .string ((rd_T35 l0 x6_1).f3), .slice Ao15 y221.length co15] 35 (0, 0))) := ⟨(by rw [hw]; exact (by (with_reducible repeat (first | refine blk_drewN ?_ _ | refine blk_drew ?_ | refine blk_alloc ?_ _)); refine blk_put (cs := #[.int .i64 (wrap64 (((rd_T35 l0 x6_1).f0) + a1)), .int .i64 ((rd_T35 l0 x6_1).f1), .string ((rd_T35 l0 x6_1).f2), .string ((rd_T35 l0 x6_1).f3), .slice A216_4 ((rd_T35 l0 x6_1).f4).length c216_4]) ?_ 4 _ rfl; (with_reducible repeat (first | refine blk_drewN ?_ _ | refine blk_drew ?_ | refine blk_alloc ?_ _)); exact BK217.out))⟩; have n3_ : Aside0 (Below w.heap.size w w17) := ⟨(by rw [hw]; exact (y19_ GE217.out))⟩; clear hw; clear HO_5; clear HO223; clear BK217; clear HB; have HO_5 := n0_; have HO223 := n1_; have BK217 := n2_; have HB := n3_; clear n0_ n1_ n2_ n3_; have hcz18_0 : w17.cell? ⟨gb217, 0, none⟩ = some (.int .i64 (wrap64 (((rd_T35 l0 x6_1).f0) + a1))) := (blk_cell BK217.out 0).trans rfl; have hcz18_1 : w17.cell? ⟨gb217, 1, none⟩ = some (.int .i64 ((rd_T35 l0 x6_1).f1)) := (blk_cell BK217.out 1).trans rfl; have hcz18_2 : w17.cell? ⟨gb217, 2, none⟩ = some (.string ((rd_T35 l0 x6_1).f2)) := (blk_cell BK217.out 2).trans rfl; have hcz18_3 : w17.cell? ⟨gb217, 3, none⟩ = some (.string ((rd_T35 l0 x6_1).f3)) := (blk_cell BK217.out 3).trans rfl; have hcz18_4 : w17.cell? ⟨gb217, 4, none⟩ = some (.slice Ao15 y221.length co15) := (blk_cell BK217.out 4).trans rfl; have hfz18_0 := blk_frozen BK217.out 0; have hfz18_1 := blk_frozen BK217.out 1; have hfz18_2 := blk_frozen BK217.out 2; have hfz18_3 := blk_frozen BK217.out 3; have hfz18_4 := blk_frozen BK217.out 4) | ((with_reducible refine gate_builtin (b := .append) (xs := #[.tmp 29, .tmp 31]) rfl ?_); at_builtin; refine Kd.S_append k35 (w0 := w) w.heap.size rfl (.tmp 29) (.tmp 31) 22 35 (.agg #[(.int .i64 0), (.int .i64 0), (.string ⟨#[]⟩), (.string ⟨#[]⟩), (.slice none 0 0)]) 72 rfl Tryd.underlying22 info35 rfl (by decide) (by omega) u5 x5_1 (⟨wrap64 (((rd_T35 l0 x6_1).f0) + a1), (rd_T35 l0 x6_1).f1, (rd_T35 l0 x6_1).f2, (rd_T35 l0 x6_1).f3, y221⟩ : S35) [.int .i64 (wrap64 (((rd_T35 l0 x6_1).f0) + a1)), .int .i64 ((rd_T35 l0 x6_1).f1), .string ((rd_T35 l0 x6_1).f2), .string ((rd_T35 l0 x6_1).f3), .slice Ao15 y221.length co15] (fun k_ => k_ ≠ gb217) (fun k_ => some k_ = (.slice Ao15 y221.length co15 : Value).ownBlock) rfl rfl ?aP (fun k_ hk_ => ((Kd.R_mono (ok' := fun k_ => ((fun k_ => k_ ≠ gb217)) k_ ∧ some k_ ≠ (u5 : Value).ownBlock) (Kd.R_types (Kd.R_apart' (HO223.out) (Kd.S_typed HO_5.out) (by decide)) BK217.out (by decide)) (fun k_ hk => ⟨hk.2, hk.1.2⟩))).1 k_ hk_.symm) ?aF ?aO ?aB ?aS ?aL ?_; (case aP => exact k35_mkM _ _ _ (⟨wrap64 (((rd_T35 l0 x6_1).f0) + a1), (rd_T35 l0 x6_1).f1, (rd_T35 l0 x6_1).f2, (rd_T35 l0 x6_1).f3, y221⟩ : S35) (Kd.R_mono (Kd.R_tight rfl (Kd.R_mono (ok' := fun k_ => ((fun k_ => k_ ≠ gb217)) k_ ∧ some k_ ≠ (u5 : Value).ownBlock) (Kd.R_types (Kd.R_apart' (HO223.out) (Kd.S_typed HO_5.out) (by decide)) BK217.out (by decide)) (fun k_ hk => ⟨hk.2, hk.1.2⟩))) (fun _ h_ => h_))); (case aB => exact (y19_ GE217.out)); (case aF => exact (fun k_ hk => Kd.freshB (g := gb217) (o := .cells #[.int .i64 (wrap64 (((rd_T35 l0 x6_1).f0) + a1)), .int .i64 ((rd_T35 l0 x6_1).f1), .string ((rd_T35 l0 x6_1).f2), .string ((rd_T35 l0 x6_1).f3), .slice Ao15 y221.length co15] 35 (0, 0)) (y11_ BK217.out) k_ hk)); (case aO => exact (y18_ HO_5.out)); (case aS => exact (below_size (y19_ GE217.out))); (case aL => have := LMc8.out; first | omega | exact Nat.le_of_lt this); intro v225 w19 ho hb hg hat; rw [← Ny224.out] at ho; have n0_ := Aside0.mk (blk_grown (g := gb217) (o := .cells #[.int .i64 (wrap64 (((rd_T35 l0 x6_1).f0) + a1)), .int .i64 ((rd_T35 l0 x6_1).f1), .string ((rd_T35 l0 x6_1).f2), .string ((rd_T35 l0 x6_1).f3), .slice Ao15 y221.length co15] 35 (0, 0)) (y11_ BK217.out) hg (Kd.S_away HO_5.out (fun _ hk => hk.2))); have n1_ := Aside0.mk (hb); have n2_ := Aside0.mk (ho); clear BK217; clear HB; clear HO_5; clear HO223; have BK217 := n0_; have HB := n1_; have HO226 := n2_; clear n0_ n1_ n2_; clear ho hb hg hat))
    go_roundg k1
    case measure => have := HK1.out; omega
    case rel => exact ⟨(y224), (wrap64 (x6_1 + 1)), y4_, H', ⟨by have := HK1.out; omega⟩, ⟨by (with_reducible repeat (first | apply Kd.S_alloc | apply Kd.S_drewN | apply Kd.S_drew)); exact Kd.S_mono HO226.out (fun _ hk => trivial)⟩, ⟨(y19_ GE217.out)⟩⟩
   ·rw [if_neg c5] at H
    have c5b0 : decide (x6_1 < (l0.length : Int)) = false := decide_eq_false c5
    clear c5
    obtain rfl := Option.some.inj H
    go_wp2
    go_ret
    exact ⟨_, y12_, by (with_reducible repeat (first | apply Kd.S_alloc | apply Kd.S_drewN | apply Kd.S_drew)); exact HO_5.out, y13_⟩
end Go.Proofs.YtpnhjipaeggcpaaDoor.X
end
section
namespace Go.Proofs.YtpnhjipaeggcpaaDoor.X
open Go.RowKit Go.Proofs.YtpnhjipaeggcpaaDoorW.PrintWords Go.Proofs.YtpnhjipaeggcpaaDoorW.PrintLast Go.Proofs.YtpnhjipaeggcpaaDoorW.PrintMore
attribute [local go_sem] max2_int min2_int max_two min_two max_three min_three max_four min_four
mutual
def rows_row.j0 : Nat → Bool → Int → Int → ByteArray → ByteArray → List (S41) → Option (Bool)
 | 0, _, _, _, _, _, _ => none
 | k + 1, x14, x256000, x256001, x256002, x256003, x256004 => if x14 = true then (if x256002.toList = ([] : List UInt8) then (some ((x256004.length : Int) == 0)) else (some false)) else (if x256001 = 0 then (if x256002.toList = ([] : List UInt8) then (rows_row.j1 k true x256000 x256001 x256002 x256003 x256004) else (rows_row.j1 k (x256003.toList != ([] : List UInt8)) x256000 x256001 x256002 x256003 x256004)) else (rows_row.j1 k true x256000 x256001 x256002 x256003 x256004))
def rows_row.j1 : Nat → Bool → Int → Int → ByteArray → ByteArray → List (S41) → Option (Bool)
 | 0, _, _, _, _, _, _ => none
 | k + 1, x36, x256000, x256001, x256002, x256003, x256004 => if x36 = true then (some false) else (rows_row.l0 k x256004 (x256004.length : Int) 0 x256000 x256001 x256002 x256003 x256004)
def rows_row.l0 : Nat → List (S41) → Int → Int → Int → Int → ByteArray → ByteArray → List (S41) → Option (Bool)
 | 0, _, _, _, _, _, _, _, _ => none
 | k + 1, x38, x39, x40, x256000, x256001, x256002, x256003, x256004 => if x40 < x39 then (if 0 ≤ x40 then (if x40 < (x38.length : Int) then (if x40 ≤ (x256004.length : Int) then ((some (x256004.take (x40 : Int).toNat : List (S41))).bind fun y258 => (rows_row.l1 k x38 x39 x40 y258 (y258.length : Int) 0 x256000 x256001 x256002 x256003 x256004 ((rd_T41 x38 x40).f0) ((rd_T41 x38 x40).f1))) else (none)) else (none)) else (none)) else (some true)
def rows_row.l1 : Nat → List (S41) → Int → Int → List (S41) → Int → Int → Int → Int → ByteArray → ByteArray → List (S41) → ByteArray → ByteArray → Option (Bool)
 | 0, _, _, _, _, _, _, _, _, _, _, _, _, _ => none
 | k + 1, x38, x39, x40, x48, x49, x50, x256000, x256001, x256002, x256003, x256004, x258000, x258001 => if x50 < x49 then (if 0 ≤ x50 then (if x50 < (x48.length : Int) then (if x258000.toList = ((rd_T41 x48 x50).f0).toList then (some false) else (rows_row.l1 k x38 x39 x40 x48 x49 (wrap64 (x50 + 1)) x256000 x256001 x256002 x256003 x256004 x258000 x258001)) else (none)) else (none)) else (rows_row.l0 k x38 x39 (wrap64 (x40 + 1)) x256000 x256001 x256002 x256003 x256004)
end
def rows_row.f (k : Nat) (a0_0 : Int) (a0_1 : Int) (a0_2 : ByteArray) (a0_3 : ByteArray) (l0_4 : List (S41)) : Option (Bool) := if a0_1 = 1 then (rows_row.j0 k true a0_0 a0_1 a0_2 a0_3 l0_4) else (rows_row.j0 k (a0_1 == 2) a0_0 a0_1 a0_2 a0_3 l0_4)
set_option maxHeartbeats 8000000 in
set_option maxRecDepth 100000 in
theorem rows_row.calls (k : Nat) (a0_0 : Int) (a0_1 : Int) (a0_2 : ByteArray) (a0_3 : ByteArray) (A0_4 : Option Addr) (c0_4 : Nat) (l0_4 : List (S41)) (r : Bool) (w : World) (hr0_4 : Kd.C k41 w A0_4 l0_4.length l0_4) (hc0_4 : l0_4.length ≤ c0_4) (h : rows_row.f k a0_0 a0_1 a0_2 a0_3 l0_4 = some r) :
  Calls Tryd.prog 66 #[.agg #[.int .i64 a0_0, .int .i64 a0_1, .string a0_2, .string a0_3, .slice A0_4 l0_4.length c0_4]] w fun e w' => e = .returned (.bool r) ∧ Below w.heap.size w w' := by
 have hu35 := Tryd.underlying35
 have hu41 := Tryd.underlying41
 have HR0_4 := Aside0.mk hr0_4
 have HC0_4 := Aside0.mk hc0_4
 clear hr0_4 hc0_4
 have HB := Aside0.mk (Below.refl w.heap.size w)
 have H : (if a0_1 = 1 then (rows_row.j0 k true a0_0 a0_1 a0_2 a0_3 l0_4) else (rows_row.j0 k (a0_1 == 2) a0_0 a0_1 a0_2 a0_3 l0_4)) = some r := h
 clear h
 have HC2 := Aside0.mk H
 clear H
 go_enter Tryd.func66, Tryd.ntmps66
 go_upto_region 1 with (first | ((with_reducible refine gate_dst (N := 1) rfl ?_); (try (refine gate_guard (by rfl) ?_; dsimp only)); refine box_event ?hg (N := 1) ?hd (cs := #[.int .i64 a0_0, .int .i64 a0_1, .string a0_2, .string a0_3, .slice A0_4 l0_4.length c0_4]) (t := 35) ?hr ?_; (case hd => rfl); (case hg => rfl); (case hr => first | (go_simp; done) | (go_simp; rfl)); intro gb255 hg w3 hbox hb; have n0_ := Aside0.mk (below_step y13_ hb); have n1_ := Aside0.mk (hbox); have n2_ := Aside0.mk ((by rw [hg]; exact (below_size y13_) : w.heap.size ≤ gb255)); have n3_ := Aside0.mk ((by rw [hg]; exact (below_size y13_) : w.heap.size ≤ gb255)); clear HB; have HB := n0_; have BK255 := n1_; have GW255 := n2_; have GE255 := n3_; clear n0_ n1_ n2_ n3_; clear hb hbox hg))
 (try simp only [Act.put, List.setIfInBounds_toArray, List.set_cons_zero, List.set_cons_succ])
 go_cut [14] (fun v14 wc => ∃ (kq : Nat) (x14_1 : Bool), v14 = .bool x14_1 ∧ Aside0 (rows_row.j0 kq x14_1 a0_0 a0_1 a0_2 a0_3 l0_4 = some r) ∧ Aside0 (kq ≤ k) ∧ Aside0 (wc.heap[gb255]? = some (.cells #[.int .i64 a0_0, .int .i64 a0_1, .string a0_2, .string a0_3, (.slice A0_4 l0_4.length c0_4)] 35 (0, 0))) ∧ Aside0 (Below w.heap.size w wc))
 case first =>
  have H := HC2.out
  clear HC2
  by_cases c4 : a0_1 = 1
  ·rw [if_pos c4] at H
   have c4b0 : (a0_1 == 1) = true := beq_iff_eq.mpr c4
   have c4b1 : (a0_1 != 1) = false := bne_eq_false_iff_eq.mpr c4
   clear c4
   (first | rw [c4b0] | (simp only [i64_w, i32_w]; rw [c4b0]) | skip)
   have H' := Aside0.mk H
   clear H
   have hcz5_0 : w3.cell? ⟨gb255, 0, none⟩ = some (.int .i64 a0_0) := (blk_cell BK255.out 0).trans rfl
   have hcz5_1 : w3.cell? ⟨gb255, 1, none⟩ = some (.int .i64 a0_1) := (blk_cell BK255.out 1).trans rfl
   have hcz5_2 : w3.cell? ⟨gb255, 2, none⟩ = some (.string a0_2) := (blk_cell BK255.out 2).trans rfl
   have hcz5_3 : w3.cell? ⟨gb255, 3, none⟩ = some (.string a0_3) := (blk_cell BK255.out 3).trans rfl
   have hcz5_4 : w3.cell? ⟨gb255, 4, none⟩ = some (.slice A0_4 l0_4.length c0_4) := (blk_cell BK255.out 4).trans rfl
   have hfz5_0 := blk_frozen BK255.out 0
   have hfz5_1 := blk_frozen BK255.out 1
   have hfz5_2 := blk_frozen BK255.out 2
   have hfz5_3 := blk_frozen BK255.out 3
   have hfz5_4 := blk_frozen BK255.out 4
   go_wp2
   go_meet
   case rel => exact ⟨_, (true), y4_, H', ⟨y1_⟩, ⟨by (with_reducible repeat (first | refine blk_drewN ?_ _ | refine blk_drew ?_ | refine blk_alloc ?_ _)); exact BK255.out⟩, ⟨(y19_ GE255.out)⟩⟩
  ·rw [if_neg c4] at H
   have c4b0 : (a0_1 == 1) = false := beq_eq_false_iff_ne.mpr c4
   have c4b1 : (a0_1 != 1) = true := bne_iff_ne.mpr c4
   (first | rw [c4b0] | (simp only [i64_w, i32_w]; rw [c4b0]) | skip)
   have H' := Aside0.mk H
   clear H
   have hcz6_0 : w3.cell? ⟨gb255, 0, none⟩ = some (.int .i64 a0_0) := (blk_cell BK255.out 0).trans rfl
   have hcz6_1 : w3.cell? ⟨gb255, 1, none⟩ = some (.int .i64 a0_1) := (blk_cell BK255.out 1).trans rfl
   have hcz6_2 : w3.cell? ⟨gb255, 2, none⟩ = some (.string a0_2) := (blk_cell BK255.out 2).trans rfl
   have hcz6_3 : w3.cell? ⟨gb255, 3, none⟩ = some (.string a0_3) := (blk_cell BK255.out 3).trans rfl
   have hcz6_4 : w3.cell? ⟨gb255, 4, none⟩ = some (.slice A0_4 l0_4.length c0_4) := (blk_cell BK255.out 4).trans rfl
   have hfz6_0 := blk_frozen BK255.out 0
   have hfz6_1 := blk_frozen BK255.out 1
   have hfz6_2 := blk_frozen BK255.out 2
   have hfz6_3 := blk_frozen BK255.out 3
   have hfz6_4 := blk_frozen BK255.out 4
   go_wp2
   go_meet
   case rel => exact ⟨_, ((a0_1 == 2)), y4_, H', ⟨y1_⟩, ⟨by (with_reducible repeat (first | refine blk_drewN ?_ _ | refine blk_drew ?_ | refine blk_alloc ?_ _)); exact BK255.out⟩, ⟨(y19_ GE255.out)⟩⟩
 case rest =>
  clear HC2
  try clear p2
  try clear c4
  try clear c4b0
  try clear c4b1
  try clear c6
  try clear hcz5_0
  try clear hcz5_1
  try clear hcz5_2
  try clear hcz5_3
  try clear hcz5_4
  try clear hcz6_0
  try clear hcz6_1
  try clear hcz6_2
  try clear hcz6_3
  try clear hcz6_4
  try clear hfz5_0
  try clear hfz5_1
  try clear hfz5_2
  try clear hfz5_3
  try clear hfz5_4
  try clear hfz6_0
  try clear hfz6_1
  try clear hfz6_2
  try clear hfz6_3
  try clear hfz6_4
  obtain ⟨kq, x14_1, rfl, HA, HJ1, BK255, HB⟩ := hcut
  cases kq with
  | zero => exact absurd HA.out (by simp [rows_row.j0])
  | succ kj1 =>
   have H := HA.out
   clear HA
   simp only [rows_row.j0] at H
   by_cases c7 : x14_1 = true
   ·subst c7
    rw [if_pos rfl] at H
    by_cases c8 : a0_2.toList = ([] : List UInt8)
    ·rw [if_pos c8] at H
     have c8b0 : (a0_2.toList == ([] : List UInt8)) = true := beq_iff_eq.mpr c8
     have c8b1 : (a0_2.toList != ([] : List UInt8)) = false := bne_eq_false_iff_eq.mpr c8
     clear c8
     obtain rfl := Option.some.inj H
     have hcz9_0 : wc.cell? ⟨gb255, 0, none⟩ = some (.int .i64 a0_0) := (blk_cell BK255.out 0).trans rfl
     have hcz9_1 : wc.cell? ⟨gb255, 1, none⟩ = some (.int .i64 a0_1) := (blk_cell BK255.out 1).trans rfl
     have hcz9_2 : wc.cell? ⟨gb255, 2, none⟩ = some (.string a0_2) := (blk_cell BK255.out 2).trans rfl
     have hcz9_3 : wc.cell? ⟨gb255, 3, none⟩ = some (.string a0_3) := (blk_cell BK255.out 3).trans rfl
     have hcz9_4 : wc.cell? ⟨gb255, 4, none⟩ = some (.slice A0_4 l0_4.length c0_4) := (blk_cell BK255.out 4).trans rfl
     have hfz9_0 := blk_frozen BK255.out 0
     have hfz9_1 := blk_frozen BK255.out 1
     have hfz9_2 := blk_frozen BK255.out 2
     have hfz9_3 := blk_frozen BK255.out 3
     have hfz9_4 := blk_frozen BK255.out 4
     go_wp2
     go_ret
     exact ⟨y12_, (y19_ GE255.out)⟩
    ·rw [if_neg c8] at H
     have c8b0 : (a0_2.toList == ([] : List UInt8)) = false := beq_eq_false_iff_ne.mpr c8
     have c8b1 : (a0_2.toList != ([] : List UInt8)) = true := bne_iff_ne.mpr c8
     obtain rfl := Option.some.inj H
     have hcz10_0 : wc.cell? ⟨gb255, 0, none⟩ = some (.int .i64 a0_0) := (blk_cell BK255.out 0).trans rfl
     have hcz10_1 : wc.cell? ⟨gb255, 1, none⟩ = some (.int .i64 a0_1) := (blk_cell BK255.out 1).trans rfl
     have hcz10_2 : wc.cell? ⟨gb255, 2, none⟩ = some (.string a0_2) := (blk_cell BK255.out 2).trans rfl
     have hcz10_3 : wc.cell? ⟨gb255, 3, none⟩ = some (.string a0_3) := (blk_cell BK255.out 3).trans rfl
     have hcz10_4 : wc.cell? ⟨gb255, 4, none⟩ = some (.slice A0_4 l0_4.length c0_4) := (blk_cell BK255.out 4).trans rfl
     have hfz10_0 := blk_frozen BK255.out 0
     have hfz10_1 := blk_frozen BK255.out 1
     have hfz10_2 := blk_frozen BK255.out 2
     have hfz10_3 := blk_frozen BK255.out 3
     have hfz10_4 := blk_frozen BK255.out 4
     go_wp2
     go_ret
     exact ⟨y12_, (y19_ GE255.out)⟩
   ·replace c7 := Bool.eq_false_iff.mpr c7
    subst c7
    rw [if_neg (show ¬ (false = true) by decide)] at H
    have HC11 := Aside0.mk H
    clear H
    go_upto_region 3 with (fail)
    go_cut [36] (fun v36 wc => ∃ (kq : Nat) (x36_10 : Bool), v36 = .bool x36_10 ∧ Aside0 (rows_row.j1 kq x36_10 a0_0 a0_1 a0_2 a0_3 l0_4 = some r) ∧ Aside0 (kq ≤ kj1) ∧ Aside0 (wc.heap[gb255]? = some (.cells #[.int .i64 a0_0, .int .i64 a0_1, .string a0_2, .string a0_3, (.slice A0_4 l0_4.length c0_4)] 35 (0, 0))) ∧ Aside0 (Below w.heap.size w wc))
    case first =>
     have H := HC11.out
     clear HC11
     by_cases c12 : a0_1 = 0
     ·rw [if_pos c12] at H
      have c12b0 : (a0_1 == 0) = true := beq_iff_eq.mpr c12
      have c12b1 : (a0_1 != 0) = false := bne_eq_false_iff_eq.mpr c12
      clear c12
      (first | rw [c12b0] | (simp only [i64_w, i32_w]; rw [c12b0]) | skip)
      by_cases c13 : a0_2.toList = ([] : List UInt8)
      ·rw [if_pos c13] at H
       have c13b0 : (a0_2.toList == ([] : List UInt8)) = true := beq_iff_eq.mpr c13
       have c13b1 : (a0_2.toList != ([] : List UInt8)) = false := bne_eq_false_iff_eq.mpr c13
       clear c13
       have H' := Aside0.mk H
       clear H
       have hcz14_0 : wc.cell? ⟨gb255, 0, none⟩ = some (.int .i64 a0_0) := (blk_cell BK255.out 0).trans rfl
       have hcz14_1 : wc.cell? ⟨gb255, 1, none⟩ = some (.int .i64 a0_1) := (blk_cell BK255.out 1).trans rfl
       have hcz14_2 : wc.cell? ⟨gb255, 2, none⟩ = some (.string a0_2) := (blk_cell BK255.out 2).trans rfl
       have hcz14_3 : wc.cell? ⟨gb255, 3, none⟩ = some (.string a0_3) := (blk_cell BK255.out 3).trans rfl
       have hcz14_4 : wc.cell? ⟨gb255, 4, none⟩ = some (.slice A0_4 l0_4.length c0_4) := (blk_cell BK255.out 4).trans rfl
       have hfz14_0 := blk_frozen BK255.out 0
       have hfz14_1 := blk_frozen BK255.out 1
       have hfz14_2 := blk_frozen BK255.out 2
       have hfz14_3 := blk_frozen BK255.out 3
       have hfz14_4 := blk_frozen BK255.out 4
       go_wp2
       go_meet
       case rel => exact ⟨_, (true), y4_, H', ⟨by have := HJ1.out; first | omega | exact Nat.le_refl _⟩, ⟨by (with_reducible repeat (first | refine blk_drewN ?_ _ | refine blk_drew ?_ | refine blk_alloc ?_ _)); exact BK255.out⟩, ⟨(y19_ GE255.out)⟩⟩
      ·rw [if_neg c13] at H
       have c13b0 : (a0_2.toList == ([] : List UInt8)) = false := beq_eq_false_iff_ne.mpr c13
       have c13b1 : (a0_2.toList != ([] : List UInt8)) = true := bne_iff_ne.mpr c13
       have H' := Aside0.mk H
       clear H
       have hcz15_0 : wc.cell? ⟨gb255, 0, none⟩ = some (.int .i64 a0_0) := (blk_cell BK255.out 0).trans rfl
       have hcz15_1 : wc.cell? ⟨gb255, 1, none⟩ = some (.int .i64 a0_1) := (blk_cell BK255.out 1).trans rfl
       have hcz15_2 : wc.cell? ⟨gb255, 2, none⟩ = some (.string a0_2) := (blk_cell BK255.out 2).trans rfl
       have hcz15_3 : wc.cell? ⟨gb255, 3, none⟩ = some (.string a0_3) := (blk_cell BK255.out 3).trans rfl
       have hcz15_4 : wc.cell? ⟨gb255, 4, none⟩ = some (.slice A0_4 l0_4.length c0_4) := (blk_cell BK255.out 4).trans rfl
       have hfz15_0 := blk_frozen BK255.out 0
       have hfz15_1 := blk_frozen BK255.out 1
       have hfz15_2 := blk_frozen BK255.out 2
       have hfz15_3 := blk_frozen BK255.out 3
       have hfz15_4 := blk_frozen BK255.out 4
       go_wp2
       go_meet
       case rel => exact ⟨_, ((a0_3.toList != ([] : List UInt8))), y4_, H', ⟨by have := HJ1.out; first | omega | exact Nat.le_refl _⟩, ⟨by (with_reducible repeat (first | refine blk_drewN ?_ _ | refine blk_drew ?_ | refine blk_alloc ?_ _)); exact BK255.out⟩, ⟨(y19_ GE255.out)⟩⟩
     ·rw [if_neg c12] at H
      have c12b0 : (a0_1 == 0) = false := beq_eq_false_iff_ne.mpr c12
      have c12b1 : (a0_1 != 0) = true := bne_iff_ne.mpr c12
      (first | rw [c12b0] | (simp only [i64_w, i32_w]; rw [c12b0]) | skip)
      have H' := Aside0.mk H
      clear H
      have hcz16_0 : wc.cell? ⟨gb255, 0, none⟩ = some (.int .i64 a0_0) := (blk_cell BK255.out 0).trans rfl
      have hcz16_1 : wc.cell? ⟨gb255, 1, none⟩ = some (.int .i64 a0_1) := (blk_cell BK255.out 1).trans rfl
      have hcz16_2 : wc.cell? ⟨gb255, 2, none⟩ = some (.string a0_2) := (blk_cell BK255.out 2).trans rfl
      have hcz16_3 : wc.cell? ⟨gb255, 3, none⟩ = some (.string a0_3) := (blk_cell BK255.out 3).trans rfl
      have hcz16_4 : wc.cell? ⟨gb255, 4, none⟩ = some (.slice A0_4 l0_4.length c0_4) := (blk_cell BK255.out 4).trans rfl
      have hfz16_0 := blk_frozen BK255.out 0
      have hfz16_1 := blk_frozen BK255.out 1
      have hfz16_2 := blk_frozen BK255.out 2
      have hfz16_3 := blk_frozen BK255.out 3
      have hfz16_4 := blk_frozen BK255.out 4
      go_wp2
      go_meet
      case rel => exact ⟨_, (true), y4_, H', ⟨by have := HJ1.out; first | omega | exact Nat.le_refl _⟩, ⟨by (with_reducible repeat (first | refine blk_drewN ?_ _ | refine blk_drew ?_ | refine blk_alloc ?_ _)); exact BK255.out⟩, ⟨(y19_ GE255.out)⟩⟩
    case rest =>
     clear HC11
     try clear c1
     try clear p2
     try clear c4
     try clear c4b0
     try clear c4b1
     try clear c6
     try clear c7
     try clear c8
     try clear c8b0
     try clear c8b1
     try clear c12
     try clear c12b0
     try clear c12b1
     try clear c13
     try clear c13b0
     try clear c13b1
     try clear hcz10_0
     try clear hcz10_1
     try clear hcz10_2
     try clear hcz10_3
     try clear hcz10_4
     try clear hcz14_0
     try clear hcz14_1
     try clear hcz14_2
     try clear hcz14_3
     try clear hcz14_4
     try clear hcz15_0
     try clear hcz15_1
     try clear hcz15_2
     try clear hcz15_3
     try clear hcz15_4
     try clear hcz16_0
     try clear hcz16_1
     try clear hcz16_2
     try clear hcz16_3
     try clear hcz16_4
     try clear hcz5_0
     try clear hcz5_1
     try clear hcz5_2
     try clear hcz5_3
     try clear hcz5_4
     try clear hcz6_0
     try clear hcz6_1
     try clear hcz6_2
     try clear hcz6_3
     try clear hcz6_4
     try clear hcz9_0
     try clear hcz9_1
     try clear hcz9_2
     try clear hcz9_3
     try clear hcz9_4
     try clear hfz10_0
     try clear hfz10_1
     try clear hfz10_2
     try clear hfz10_3
     try clear hfz10_4
     try clear hfz14_0
     try clear hfz14_1
     try clear hfz14_2
     try clear hfz14_3
     try clear hfz14_4
     try clear hfz15_0
     try clear hfz15_1
     try clear hfz15_2
     try clear hfz15_3
     try clear hfz15_4
     try clear hfz16_0
     try clear hfz16_1
     try clear hfz16_2
     try clear hfz16_3
     try clear hfz16_4
     try clear hfz5_0
     try clear hfz5_1
     try clear hfz5_2
     try clear hfz5_3
     try clear hfz5_4
     try clear hfz6_0
     try clear hfz6_1
     try clear hfz6_2
     try clear hfz6_3
     try clear hfz6_4
     try clear hfz9_0
     try clear hfz9_1
     try clear hfz9_2
     try clear hfz9_3
     try clear hfz9_4
     try clear p2
     obtain ⟨kq, x36_10, rfl, HA, HJ10, BK255, HB⟩ := hcut
     cases kq with
     | zero => exact absurd HA.out (by simp [rows_row.j1])
     | succ kj10 =>
      have H := HA.out
      clear HA
      simp only [rows_row.j1] at H
      by_cases c17 : x36_10 = true
      ·subst c17
       rw [if_pos rfl] at H
       obtain rfl := Option.some.inj H
       go_wp2
       go_ret
       exact ⟨y12_, (y19_ GE255.out)⟩
      ·replace c17 := Bool.eq_false_iff.mpr c17
       subst c17
       rw [if_neg (show ¬ (false = true) by decide)] at H
       have H' := Aside0.mk H
       clear H
       have hcz18_0 : wc.cell? ⟨gb255, 0, none⟩ = some (.int .i64 a0_0) := (blk_cell BK255.out 0).trans rfl
       have hcz18_1 : wc.cell? ⟨gb255, 1, none⟩ = some (.int .i64 a0_1) := (blk_cell BK255.out 1).trans rfl
       have hcz18_2 : wc.cell? ⟨gb255, 2, none⟩ = some (.string a0_2) := (blk_cell BK255.out 2).trans rfl
       have hcz18_3 : wc.cell? ⟨gb255, 3, none⟩ = some (.string a0_3) := (blk_cell BK255.out 3).trans rfl
       have hcz18_4 : wc.cell? ⟨gb255, 4, none⟩ = some (.slice A0_4 l0_4.length c0_4) := (blk_cell BK255.out 4).trans rfl
       have hfz18_0 := blk_frozen BK255.out 0
       have hfz18_1 := blk_frozen BK255.out 1
       have hfz18_2 := blk_frozen BK255.out 2
       have hfz18_3 := blk_frozen BK255.out 3
       have hfz18_4 := blk_frozen BK255.out 4
       go_wp2
       go_loopg [40] kj10 (fun kq v40 w' => ∃ (x40_3 : Int), v40 = .int .i64 x40_3 ∧ Aside0 (rows_row.l0 kq l0_4 (l0_4.length : Int) x40_3 a0_0 a0_1 a0_2 a0_3 l0_4 = some r) ∧ Aside0 (kq ≤ kj10) ∧ Aside0 (w'.heap[gb255]? = some (.cells #[.int .i64 a0_0, .int .i64 a0_1, .string a0_2, .string a0_3, (.slice A0_4 l0_4.length c0_4)] 35 (0, 0))) ∧ Aside0 (Below w.heap.size w w'))
       case atStart => exact ⟨(0), y4_, H', ⟨Nat.le_refl _⟩, ⟨by (with_reducible repeat (first | refine blk_drewN ?_ _ | refine blk_drew ?_ | refine blk_alloc ?_ _)); exact BK255.out⟩, ⟨(y19_ GE255.out)⟩⟩
       case round =>
        clear H'
        try clear c1
        try clear p2
        try clear c4
        try clear c4b0
        try clear c4b1
        try clear c6
        try clear c7
        try clear c8
        try clear c8b0
        try clear c8b1
        try clear c12
        try clear c12b0
        try clear c12b1
        try clear c13
        try clear c13b0
        try clear c13b1
        try clear c17
        try clear hcz10_0
        try clear hcz10_1
        try clear hcz10_2
        try clear hcz10_3
        try clear hcz10_4
        try clear hcz14_0
        try clear hcz14_1
        try clear hcz14_2
        try clear hcz14_3
        try clear hcz14_4
        try clear hcz15_0
        try clear hcz15_1
        try clear hcz15_2
        try clear hcz15_3
        try clear hcz15_4
        try clear hcz16_0
        try clear hcz16_1
        try clear hcz16_2
        try clear hcz16_3
        try clear hcz16_4
        try clear hcz18_0
        try clear hcz18_1
        try clear hcz18_2
        try clear hcz18_3
        try clear hcz18_4
        try clear hcz5_0
        try clear hcz5_1
        try clear hcz5_2
        try clear hcz5_3
        try clear hcz5_4
        try clear hcz6_0
        try clear hcz6_1
        try clear hcz6_2
        try clear hcz6_3
        try clear hcz6_4
        try clear hcz9_0
        try clear hcz9_1
        try clear hcz9_2
        try clear hcz9_3
        try clear hcz9_4
        try clear hfz10_0
        try clear hfz10_1
        try clear hfz10_2
        try clear hfz10_3
        try clear hfz10_4
        try clear hfz14_0
        try clear hfz14_1
        try clear hfz14_2
        try clear hfz14_3
        try clear hfz14_4
        try clear hfz15_0
        try clear hfz15_1
        try clear hfz15_2
        try clear hfz15_3
        try clear hfz15_4
        try clear hfz16_0
        try clear hfz16_1
        try clear hfz16_2
        try clear hfz16_3
        try clear hfz16_4
        try clear hfz18_0
        try clear hfz18_1
        try clear hfz18_2
        try clear hfz18_3
        try clear hfz18_4
        try clear hfz5_0
        try clear hfz5_1
        try clear hfz5_2
        try clear hfz5_3
        try clear hfz5_4
        try clear hfz6_0
        try clear hfz6_1
        try clear hfz6_2
        try clear hfz6_3
        try clear hfz6_4
        try clear hfz9_0
        try clear hfz9_1
        try clear hfz9_2
        try clear hfz9_3
        try clear hfz9_4
        try clear p2
        obtain ⟨x40_3, rfl, HA, HK3, BK255, HB⟩ := hrel
        cases gk with
        | zero => exact absurd HA.out (by simp [rows_row.l0])
        | succ k3 =>
         have H := HA.out
         clear HA
         simp only [rows_row.l0] at H
         by_cases c19 : x40_3 < (l0_4.length : Int)
         ·rw [if_pos c19] at H
          have c19b0 : decide (x40_3 < (l0_4.length : Int)) = true := decide_eq_true c19
          clear c19
          by_cases c20 : 0 ≤ x40_3
          rotate_left
          ·rw [if_neg c20] at H
           exact absurd H (by simp)
          rw [if_pos c20] at H
          have c20b0 : decide (0 ≤ x40_3) = true := decide_eq_true c20
          clear c20
          by_cases c21 : x40_3 < (l0_4.length : Int)
          rotate_left
          ·rw [if_neg c21] at H
           exact absurd H (by simp)
          rw [if_pos c21] at H
          have c21b0 : decide (x40_3 < (l0_4.length : Int)) = true := decide_eq_true c21
          clear c21
          have c22b0 := eq_true (of_decide_eq_true y2_ : 0 ≤ x40_3)
          by_cases c23 : x40_3 ≤ (l0_4.length : Int)
          rotate_left
          ·rw [if_neg c23] at H
           exact absurd H (by simp)
          rw [if_pos c23] at H
          have c23b0 := eq_true c23
          have c23b1 : decide (x40_3 ≤ (l0_4.length : Int)) = true := decide_eq_true c23
          clear c23
          obtain ⟨y258, hy258⟩ : ∃ y_ : List (S41), y_ = (l0_4.take (x40_3 : Int).toNat) := ⟨_, rfl⟩
          replace H : (rows_row.l1 k3 l0_4 (l0_4.length : Int) x40_3 y258 (y258.length : Int) 0 a0_0 a0_1 a0_2 a0_3 l0_4 ((rd_T41 l0_4 x40_3).f0) ((rd_T41 l0_4 x40_3).f1)) = some r := by first | (rw [hy258]; with_reducible exact H) | (have H2_ := (Option.bind_some _ _).symm.trans H; rw [hy258]; with_reducible exact H2_) | (have H2_ := (Option.bind_some _ _).symm.trans H; with_reducible exact H2_) | with_reducible exact H | (rw [hy258]; exact H) | exact H
          have Ny258 := Aside0.mk hy258
          clear hy258
          have H' := Aside0.mk H
          clear H
          have p256 : 0 ≤ (x40_3 : Int) := of_decide_eq_true y2_
          have q256 : x40_3 < (l0_4.length : Int) := of_decide_eq_true y2_
          obtain ⟨ad256, e256, hx256_0, hx256_1⟩ := at_T41 HR0_4.out x40_3 p256 q256
          cases e256
          replace hx256_0 := (HB.out.cell (World.block_lt_of_cell? w _ hx256_0)).trans hx256_0
          replace hx256_1 := (HB.out.cell (World.block_lt_of_cell? w _ hx256_1)).trans hx256_1
          replace p256 := eq_true p256
          replace q256 := eq_true q256
          go_wp2_with (first | ((with_reducible refine gate_dst (N := 4) rfl ?_); (try (refine gate_guard (by rfl) ?_; dsimp only)); refine box_event ?hg (N := 4) ?hd (cs := #[.string (⟨#[]⟩ : ByteArray), .string (⟨#[]⟩ : ByteArray)]) (t := 41) ?hr ?_; (case hd => rfl); (case hg => rfl); (case hr => first | (go_simp; done) | (go_simp; rfl)); intro gb257 hg w24 hbox hb; have n0_ := Aside0.mk (blk_below (g := gb255) (o := .cells #[.int .i64 a0_0, .int .i64 a0_1, .string a0_2, .string a0_3, .slice (some ad256) l0_4.length c0_4] 35 (0, 0)) (y11_ BK255.out) hb); have n1_ := Aside0.mk (below_step (y19_ GE255.out) hb); have n2_ := Aside0.mk (hbox); have n3_ := Aside0.mk ((by rw [hg]; exact (below_size (y19_ GE255.out)) : w.heap.size ≤ gb257)); have n4_ := Aside0.mk ((by rw [hg]; exact (below_size (y19_ GE255.out)) : w.heap.size ≤ gb257)); have n5_ := Aside0.mk ((by rw [hg]; exact Nat.ne_of_lt (blk_lt (g := gb255) (o := .cells #[.int .i64 a0_0, .int .i64 a0_1, .string a0_2, .string a0_3, .slice (some ad256) l0_4.length c0_4] 35 (0, 0)) (y11_ BK255.out)) : gb255 ≠ gb257)); have n6_ := Aside0.mk ((by rw [hg]; exact Nat.ne_of_gt (blk_lt (g := gb255) (o := .cells #[.int .i64 a0_0, .int .i64 a0_1, .string a0_2, .string a0_3, .slice (some ad256) l0_4.length c0_4] 35 (0, 0)) (y11_ BK255.out)) : gb257 ≠ gb255)); clear BK255; clear HB; have BK255 := n0_; have HB := n1_; have BK257 := n2_; have GW257 := n3_; have GE257 := n4_; have NB255_257 := n5_; have NB257_255 := n6_; clear n0_ n1_ n2_ n3_ n4_ n5_ n6_; clear hb hbox hg; have hnb25 := NB257_255.out; have hnc25 := NB255_257.out; have hcz26_0 : w24.cell? ⟨gb257, 0, none⟩ = some (.string (⟨#[]⟩ : ByteArray)) := (blk_cell BK257.out 0).trans rfl; have hcz26_1 : w24.cell? ⟨gb257, 1, none⟩ = some (.string (⟨#[]⟩ : ByteArray)) := (blk_cell BK257.out 1).trans rfl; have hfz26_0 := blk_frozen BK257.out 0; have hfz26_1 := blk_frozen BK257.out 1) | ((with_reducible refine gate_store (t := 41) (p := 4) rfl ?_); refine store_event (t := 41) (p := 4) (v := ?vo_w27) (w1 := ((w24.setCell ⟨gb257, 0, none⟩ (.string ((rd_T41 l0_4 x40_3).f0))).setCell ⟨gb257, 1, none⟩ (.string ((rd_T41 l0_4 x40_3).f1)))) ?hg ?ho ?hn ?hr ?_; (case ho => rfl); (case hg => rfl); (case hn => rfl); (case hr => first | (go_simp; done) | (go_simp; rfl)); intro w27 hw; have n0_ : Aside0 (w27.heap[gb255]? = some (.cells #[.int .i64 a0_0, .int .i64 a0_1, .string a0_2, .string a0_3, .slice (some ad256) l0_4.length c0_4] 35 (0, 0))) := ⟨(by rw [hw]; exact (y29_ NB255_257.out BK255.out))⟩; have n1_ : Aside0 (w27.heap[gb257]? = some (.cells #[.string ((rd_T41 l0_4 x40_3).f0), .string ((rd_T41 l0_4 x40_3).f1)] 41 (0, 0))) := ⟨(by rw [hw]; exact (by (with_reducible repeat (first | refine blk_drewN ?_ _ | refine blk_drew ?_ | refine blk_alloc ?_ _)); refine blk_put (cs := #[.string ((rd_T41 l0_4 x40_3).f0), .string (⟨#[]⟩ : ByteArray)]) ?_ 1 _ rfl; (with_reducible repeat (first | refine blk_drewN ?_ _ | refine blk_drew ?_ | refine blk_alloc ?_ _)); refine blk_put (cs := #[.string (⟨#[]⟩ : ByteArray), .string (⟨#[]⟩ : ByteArray)]) ?_ 0 _ rfl; (with_reducible repeat (first | refine blk_drewN ?_ _ | refine blk_drew ?_ | refine blk_alloc ?_ _)); exact BK257.out))⟩; have n2_ : Aside0 (Below w.heap.size w w27) := ⟨(by rw [hw]; exact (y22_ GE255.out GE257.out))⟩; clear hw; clear BK255; clear BK257; clear HB; have BK255 := n0_; have BK257 := n1_; have HB := n2_; clear n0_ n1_ n2_; have hcz28_0 : w27.cell? ⟨gb255, 0, none⟩ = some (.int .i64 a0_0) := (blk_cell BK255.out 0).trans rfl; have hcz28_1 : w27.cell? ⟨gb255, 1, none⟩ = some (.int .i64 a0_1) := (blk_cell BK255.out 1).trans rfl; have hcz28_2 : w27.cell? ⟨gb255, 2, none⟩ = some (.string a0_2) := (blk_cell BK255.out 2).trans rfl; have hcz28_3 : w27.cell? ⟨gb255, 3, none⟩ = some (.string a0_3) := (blk_cell BK255.out 3).trans rfl; have hcz28_4 : w27.cell? ⟨gb255, 4, none⟩ = some (.slice (some ad256) l0_4.length c0_4) := (blk_cell BK255.out 4).trans rfl; have hfz28_0 := blk_frozen BK255.out 0; have hfz28_1 := blk_frozen BK255.out 1; have hfz28_2 := blk_frozen BK255.out 2; have hfz28_3 := blk_frozen BK255.out 3; have hfz28_4 := blk_frozen BK255.out 4; have q29 : (x40_3 : Int) ≤ ((l0_4.length : Int) : Int) := of_decide_eq_true y2_; obtain ⟨i029, hi029, _, hsz29, _⟩ := info_parts info41; have hroom29 : l0_4.length ≤ c0_4 := HC0_4.out; have hC29 : Kd.C k41 _ (some ad256) l0_4.length l0_4 := HR0_4.out; have hcut29 := cut_to (P := Tryd.prog) 33 41 .i64 Tryd.underlying33 hi029 (some ad256) l0_4.length c0_4 x40_3 (of_decide_eq_true y2_) q29 hroom29; have hr29 := Kd.C_take (m := (x40_3 : Int).toNat) hC29 (by omega); have hy29 : y258.length = (x40_3 : Int).toNat := (y0_ Ny258.out); rw [← Ny258.out] at hr29; rw [← hy29] at hcut29; have HR261 := Aside0.mk hr29; have HC261 := Aside0.mk (show y258.length ≤ c0_4 from by omega); clear hr29 hC29 hroom29 hi029 hsz29; have KY29 := Aside0.mk hy29; clear hy29; replace q29 := eq_true q29))
          go_loopg [50] k3 (fun kq v50 w' => ∃ (x50_4 : Int), v50 = .int .i64 x50_4 ∧ Aside0 (rows_row.l1 kq l0_4 (l0_4.length : Int) x40_3 y258 (y258.length : Int) x50_4 a0_0 a0_1 a0_2 a0_3 l0_4 ((rd_T41 l0_4 x40_3).f0) ((rd_T41 l0_4 x40_3).f1) = some r) ∧ Aside0 (kq ≤ k3) ∧ Aside0 (w'.heap[gb255]? = some (.cells #[.int .i64 a0_0, .int .i64 a0_1, .string a0_2, .string a0_3, (.slice (some ad256) l0_4.length c0_4)] 35 (0, 0))) ∧ Aside0 (w'.heap[gb257]? = some (.cells #[.string ((rd_T41 l0_4 x40_3).f0), .string ((rd_T41 l0_4 x40_3).f1)] 41 (0, 0))) ∧ Aside0 (Below w.heap.size w w'))
          case atStart => exact ⟨(0), y4_, H', ⟨Nat.le_refl _⟩, ⟨by (with_reducible repeat (first | refine blk_drewN ?_ _ | refine blk_drew ?_ | refine blk_alloc ?_ _)); exact BK255.out⟩, ⟨by (with_reducible repeat (first | refine blk_drewN ?_ _ | refine blk_drew ?_ | refine blk_alloc ?_ _)); exact BK257.out⟩, ⟨(y22_ GE255.out GE257.out)⟩⟩
          case round =>
           clear H'
           try clear c1
           try clear c2
           try clear p2
           try clear q2
           try clear hx2
           try clear c4
           try clear c4b0
           try clear c4b1
           try clear c6
           try clear c7
           try clear c8
           try clear c8b0
           try clear c8b1
           try clear c12
           try clear c12b0
           try clear c12b1
           try clear c13
           try clear c13b0
           try clear c13b1
           try clear c17
           try clear c19
           try clear c19b0
           try clear c20
           try clear c20b0
           try clear c21
           try clear c21b0
           try clear c22
           try clear c22b0
           try clear c23
           try clear c23b0
           try clear c23b1
           try clear c25
           try clear p25
           try clear q25
           try clear hx25
           try clear q29
           try clear hcz10_0
           try clear hcz10_1
           try clear hcz10_2
           try clear hcz10_3
           try clear hcz10_4
           try clear hcz14_0
           try clear hcz14_1
           try clear hcz14_2
           try clear hcz14_3
           try clear hcz14_4
           try clear hcz15_0
           try clear hcz15_1
           try clear hcz15_2
           try clear hcz15_3
           try clear hcz15_4
           try clear hcz16_0
           try clear hcz16_1
           try clear hcz16_2
           try clear hcz16_3
           try clear hcz16_4
           try clear hcz18_0
           try clear hcz18_1
           try clear hcz18_2
           try clear hcz18_3
           try clear hcz18_4
           try clear hcz26_0
           try clear hcz26_1
           try clear hcz28_0
           try clear hcz28_1
           try clear hcz28_2
           try clear hcz28_3
           try clear hcz28_4
           try clear hcz5_0
           try clear hcz5_1
           try clear hcz5_2
           try clear hcz5_3
           try clear hcz5_4
           try clear hcz6_0
           try clear hcz6_1
           try clear hcz6_2
           try clear hcz6_3
           try clear hcz6_4
           try clear hcz9_0
           try clear hcz9_1
           try clear hcz9_2
           try clear hcz9_3
           try clear hcz9_4
           try clear hfz10_0
           try clear hfz10_1
           try clear hfz10_2
           try clear hfz10_3
           try clear hfz10_4
           try clear hfz14_0
           try clear hfz14_1
           try clear hfz14_2
           try clear hfz14_3
           try clear hfz14_4
           try clear hfz15_0
           try clear hfz15_1
           try clear hfz15_2
           try clear hfz15_3
           try clear hfz15_4
           try clear hfz16_0
           try clear hfz16_1
           try clear hfz16_2
           try clear hfz16_3
           try clear hfz16_4
           try clear hfz18_0
           try clear hfz18_1
           try clear hfz18_2
           try clear hfz18_3
           try clear hfz18_4
           try clear hfz26_0
           try clear hfz26_1
           try clear hfz28_0
           try clear hfz28_1
           try clear hfz28_2
           try clear hfz28_3
           try clear hfz28_4
           try clear hfz5_0
           try clear hfz5_1
           try clear hfz5_2
           try clear hfz5_3
           try clear hfz5_4
           try clear hfz6_0
           try clear hfz6_1
           try clear hfz6_2
           try clear hfz6_3
           try clear hfz6_4
           try clear hfz9_0
           try clear hfz9_1
           try clear hfz9_2
           try clear hfz9_3
           try clear hfz9_4
           try clear hx256_0
           try clear hx256_1
           try clear p2
           try clear p256
           try clear q256
           try clear q29
           obtain ⟨x50_4, rfl, HA, HK4, BK255, BK257, HB⟩ := hrel
           cases gk with
           | zero => exact absurd HA.out (by simp [rows_row.l1])
           | succ k4 =>
            have H := HA.out
            clear HA
            simp only [rows_row.l1] at H
            by_cases c30 : x50_4 < (y258.length : Int)
            ·rw [if_pos c30] at H
             have c30b0 : decide (x50_4 < (y258.length : Int)) = true := decide_eq_true c30
             clear c30
             by_cases c31 : 0 ≤ x50_4
             rotate_left
             ·rw [if_neg c31] at H
              exact absurd H (by simp)
             rw [if_pos c31] at H
             have c31b0 : decide (0 ≤ x50_4) = true := decide_eq_true c31
             clear c31
             by_cases c32 : x50_4 < (y258.length : Int)
             rotate_left
             ·rw [if_neg c32] at H
              exact absurd H (by simp)
             rw [if_pos c32] at H
             have c32b0 : decide (x50_4 < (y258.length : Int)) = true := decide_eq_true c32
             clear c32
             by_cases c33 : ((rd_T41 l0_4 x40_3).f0).toList = ((rd_T41 y258 x50_4).f0).toList
             ·rw [if_pos c33] at H
              have c33b0 : (((rd_T41 l0_4 x40_3).f0).toList == ((rd_T41 y258 x50_4).f0).toList) = true := beq_iff_eq.mpr c33
              have c33b1 : (((rd_T41 l0_4 x40_3).f0).toList != ((rd_T41 y258 x50_4).f0).toList) = false := bne_eq_false_iff_eq.mpr c33
              clear c33
              obtain rfl := Option.some.inj H
              have p262 : 0 ≤ (x50_4 : Int) := of_decide_eq_true y2_
              have q262 : x50_4 < (y258.length : Int) := of_decide_eq_true y2_
              obtain ⟨ad262, e262, hx262_0, hx262_1⟩ := at_T41 HR261.out x50_4 p262 q262
              obtain rfl : ad256 = ad262 := (by injection e262)
              replace hx262_0 := (HB.out.cell (World.block_lt_of_cell? w _ hx262_0)).trans hx262_0
              replace hx262_1 := (HB.out.cell (World.block_lt_of_cell? w _ hx262_1)).trans hx262_1
              replace p262 := eq_true p262
              replace q262 := eq_true q262
              go_wp2_with (first | ((with_reducible refine gate_dst (N := 6) rfl ?_); (try (refine gate_guard (by rfl) ?_; dsimp only)); refine box_event ?hg (N := 6) ?hd (cs := #[.string (⟨#[]⟩ : ByteArray), .string (⟨#[]⟩ : ByteArray)]) (t := 41) ?hr ?_; (case hd => rfl); (case hg => rfl); (case hr => first | (go_simp; done) | (go_simp; rfl)); intro gb263 hg w34 hbox hb; have n0_ := Aside0.mk (blk_below (g := gb255) (o := .cells #[.int .i64 a0_0, .int .i64 a0_1, .string a0_2, .string a0_3, .slice (some ad256) l0_4.length c0_4] 35 (0, 0)) (y11_ BK255.out) hb); have n1_ := Aside0.mk (blk_below (g := gb257) (o := .cells #[.string ((rd_T41 l0_4 x40_3).f0), .string ((rd_T41 l0_4 x40_3).f1)] 41 (0, 0)) (y11_ BK257.out) hb); have n2_ := Aside0.mk (below_step (y22_ GE255.out GE257.out) hb); have n3_ := Aside0.mk (hbox); have n4_ := Aside0.mk ((by rw [hg]; exact (below_size (y22_ GE255.out GE257.out)) : w.heap.size ≤ gb263)); have n5_ := Aside0.mk ((by rw [hg]; exact (below_size (y22_ GE255.out GE257.out)) : w.heap.size ≤ gb263)); have n6_ := Aside0.mk ((by rw [hg]; exact Nat.ne_of_lt (blk_lt (g := gb255) (o := .cells #[.int .i64 a0_0, .int .i64 a0_1, .string a0_2, .string a0_3, .slice (some ad256) l0_4.length c0_4] 35 (0, 0)) (y11_ BK255.out)) : gb255 ≠ gb263)); have n7_ := Aside0.mk ((by rw [hg]; exact Nat.ne_of_gt (blk_lt (g := gb255) (o := .cells #[.int .i64 a0_0, .int .i64 a0_1, .string a0_2, .string a0_3, .slice (some ad256) l0_4.length c0_4] 35 (0, 0)) (y11_ BK255.out)) : gb263 ≠ gb255)); have n8_ := Aside0.mk ((by rw [hg]; exact Nat.ne_of_lt (blk_lt (g := gb257) (o := .cells #[.string ((rd_T41 l0_4 x40_3).f0), .string ((rd_T41 l0_4 x40_3).f1)] 41 (0, 0)) (y11_ BK257.out)) : gb257 ≠ gb263)); have n9_ := Aside0.mk ((by rw [hg]; exact Nat.ne_of_gt (blk_lt (g := gb257) (o := .cells #[.string ((rd_T41 l0_4 x40_3).f0), .string ((rd_T41 l0_4 x40_3).f1)] 41 (0, 0)) (y11_ BK257.out)) : gb263 ≠ gb257)); clear BK255; clear BK257; clear HB; have BK255 := n0_; have BK257 := n1_; have HB := n2_; have BK263 := n3_; have GW263 := n4_; have GE263 := n5_; have NB255_263 := n6_; have NB263_255 := n7_; have NB257_263 := n8_; have NB263_257 := n9_; clear n0_ n1_ n2_ n3_ n4_ n5_ n6_ n7_ n8_ n9_; clear hb hbox hg; have hnb35 := NB263_255.out; have hnc35 := NB255_263.out; have hnb36 := NB263_257.out; have hnc36 := NB257_263.out; have hcz37_0 : w34.cell? ⟨gb263, 0, none⟩ = some (.string (⟨#[]⟩ : ByteArray)) := (blk_cell BK263.out 0).trans rfl; have hcz37_1 : w34.cell? ⟨gb263, 1, none⟩ = some (.string (⟨#[]⟩ : ByteArray)) := (blk_cell BK263.out 1).trans rfl; have hfz37_0 := blk_frozen BK263.out 0; have hfz37_1 := blk_frozen BK263.out 1; have hnb38 := NB257_255.out; have hnc38 := NB255_257.out; have hcz39_0 : w34.cell? ⟨gb257, 0, none⟩ = some (.string ((rd_T41 l0_4 x40_3).f0)) := (blk_cell BK257.out 0).trans rfl; have hcz39_1 : w34.cell? ⟨gb257, 1, none⟩ = some (.string ((rd_T41 l0_4 x40_3).f1)) := (blk_cell BK257.out 1).trans rfl; have hfz39_0 := blk_frozen BK257.out 0; have hfz39_1 := blk_frozen BK257.out 1))
              go_ret
              exact ⟨y12_, (y26_ GE255.out GE257.out GE263.out)⟩
             ·rw [if_neg c33] at H
              have c33b0 : (((rd_T41 l0_4 x40_3).f0).toList == ((rd_T41 y258 x50_4).f0).toList) = false := beq_eq_false_iff_ne.mpr c33
              have c33b1 : (((rd_T41 l0_4 x40_3).f0).toList != ((rd_T41 y258 x50_4).f0).toList) = true := bne_iff_ne.mpr c33
              have H' := Aside0.mk H
              clear H
              have p262 : 0 ≤ (x50_4 : Int) := of_decide_eq_true y2_
              have q262 : x50_4 < (y258.length : Int) := of_decide_eq_true y2_
              obtain ⟨ad262, e262, hx262_0, hx262_1⟩ := at_T41 HR261.out x50_4 p262 q262
              obtain rfl : ad256 = ad262 := (by injection e262)
              replace hx262_0 := (HB.out.cell (World.block_lt_of_cell? w _ hx262_0)).trans hx262_0
              replace hx262_1 := (HB.out.cell (World.block_lt_of_cell? w _ hx262_1)).trans hx262_1
              replace p262 := eq_true p262
              replace q262 := eq_true q262
              go_wp2_with (first | ((with_reducible refine gate_dst (N := 6) rfl ?_); (try (refine gate_guard (by rfl) ?_; dsimp only)); refine box_event ?hg (N := 6) ?hd (cs := #[.string (⟨#[]⟩ : ByteArray), .string (⟨#[]⟩ : ByteArray)]) (t := 41) ?hr ?_; (case hd => rfl); (case hg => rfl); (case hr => first | (go_simp; done) | (go_simp; rfl)); intro gb263 hg w40 hbox hb; have n0_ := Aside0.mk (blk_below (g := gb255) (o := .cells #[.int .i64 a0_0, .int .i64 a0_1, .string a0_2, .string a0_3, .slice (some ad256) l0_4.length c0_4] 35 (0, 0)) (y11_ BK255.out) hb); have n1_ := Aside0.mk (blk_below (g := gb257) (o := .cells #[.string ((rd_T41 l0_4 x40_3).f0), .string ((rd_T41 l0_4 x40_3).f1)] 41 (0, 0)) (y11_ BK257.out) hb); have n2_ := Aside0.mk (below_step (y22_ GE255.out GE257.out) hb); have n3_ := Aside0.mk (hbox); have n4_ := Aside0.mk ((by rw [hg]; exact (below_size (y22_ GE255.out GE257.out)) : w.heap.size ≤ gb263)); have n5_ := Aside0.mk ((by rw [hg]; exact (below_size (y22_ GE255.out GE257.out)) : w.heap.size ≤ gb263)); have n6_ := Aside0.mk ((by rw [hg]; exact Nat.ne_of_lt (blk_lt (g := gb255) (o := .cells #[.int .i64 a0_0, .int .i64 a0_1, .string a0_2, .string a0_3, .slice (some ad256) l0_4.length c0_4] 35 (0, 0)) (y11_ BK255.out)) : gb255 ≠ gb263)); have n7_ := Aside0.mk ((by rw [hg]; exact Nat.ne_of_gt (blk_lt (g := gb255) (o := .cells #[.int .i64 a0_0, .int .i64 a0_1, .string a0_2, .string a0_3, .slice (some ad256) l0_4.length c0_4] 35 (0, 0)) (y11_ BK255.out)) : gb263 ≠ gb255)); have n8_ := Aside0.mk ((by rw [hg]; exact Nat.ne_of_lt (blk_lt (g := gb257) (o := .cells #[.string ((rd_T41 l0_4 x40_3).f0), .string ((rd_T41 l0_4 x40_3).f1)] 41 (0, 0)) (y11_ BK257.out)) : gb257 ≠ gb263)); have n9_ := Aside0.mk ((by rw [hg]; exact Nat.ne_of_gt (blk_lt (g := gb257) (o := .cells #[.string ((rd_T41 l0_4 x40_3).f0), .string ((rd_T41 l0_4 x40_3).f1)] 41 (0, 0)) (y11_ BK257.out)) : gb263 ≠ gb257)); clear BK255; clear BK257; clear HB; have BK255 := n0_; have BK257 := n1_; have HB := n2_; have BK263 := n3_; have GW263 := n4_; have GE263 := n5_; have NB255_263 := n6_; have NB263_255 := n7_; have NB257_263 := n8_; have NB263_257 := n9_; clear n0_ n1_ n2_ n3_ n4_ n5_ n6_ n7_ n8_ n9_; clear hb hbox hg; have hnb41 := NB263_255.out; have hnc41 := NB255_263.out; have hnb42 := NB263_257.out; have hnc42 := NB257_263.out; have hcz43_0 : w40.cell? ⟨gb263, 0, none⟩ = some (.string (⟨#[]⟩ : ByteArray)) := (blk_cell BK263.out 0).trans rfl; have hcz43_1 : w40.cell? ⟨gb263, 1, none⟩ = some (.string (⟨#[]⟩ : ByteArray)) := (blk_cell BK263.out 1).trans rfl; have hfz43_0 := blk_frozen BK263.out 0; have hfz43_1 := blk_frozen BK263.out 1; have hnb44 := NB257_255.out; have hnc44 := NB255_257.out; have hcz45_0 : w40.cell? ⟨gb257, 0, none⟩ = some (.string ((rd_T41 l0_4 x40_3).f0)) := (blk_cell BK257.out 0).trans rfl; have hcz45_1 : w40.cell? ⟨gb257, 1, none⟩ = some (.string ((rd_T41 l0_4 x40_3).f1)) := (blk_cell BK257.out 1).trans rfl; have hfz45_0 := blk_frozen BK257.out 0; have hfz45_1 := blk_frozen BK257.out 1))
              go_roundg k4
              case measure => have := HJ1.out; have := HJ10.out; have := HK3.out; have := HK4.out; omega
              case rel => exact ⟨(wrap64 (x50_4 + 1)), y4_, H', ⟨by have := HJ1.out; have := HJ10.out; have := HK3.out; have := HK4.out; omega⟩, ⟨by (with_reducible repeat (first | refine blk_drewN ?_ _ | refine blk_drew ?_ | refine blk_alloc ?_ _)); refine blk_far ?_ NB255_263.out _; (with_reducible repeat (first | refine blk_drewN ?_ _ | refine blk_drew ?_ | refine blk_alloc ?_ _)); refine blk_far ?_ NB255_263.out _; (with_reducible repeat (first | refine blk_drewN ?_ _ | refine blk_drew ?_ | refine blk_alloc ?_ _)); exact BK255.out⟩, ⟨by (with_reducible repeat (first | refine blk_drewN ?_ _ | refine blk_drew ?_ | refine blk_alloc ?_ _)); refine blk_far ?_ NB257_263.out _; (with_reducible repeat (first | refine blk_drewN ?_ _ | refine blk_drew ?_ | refine blk_alloc ?_ _)); refine blk_far ?_ NB257_263.out _; (with_reducible repeat (first | refine blk_drewN ?_ _ | refine blk_drew ?_ | refine blk_alloc ?_ _)); exact BK257.out⟩, ⟨(y26_ GE255.out GE257.out GE263.out)⟩⟩
            ·rw [if_neg c30] at H
             have c30b0 : decide (x50_4 < (y258.length : Int)) = false := decide_eq_false c30
             clear c30
             have H' := Aside0.mk H
             clear H
             go_wp2
             go_roundg k4
             case measure => have := HJ1.out; have := HJ10.out; have := HK3.out; have := HK4.out; omega
             case rel => exact ⟨(wrap64 (x40_3 + 1)), y4_, H', ⟨by have := HJ1.out; have := HJ10.out; have := HK3.out; have := HK4.out; omega⟩, ⟨by (with_reducible repeat (first | refine blk_drewN ?_ _ | refine blk_drew ?_ | refine blk_alloc ?_ _)); exact BK255.out⟩, ⟨(y22_ GE255.out GE257.out)⟩⟩
         ·rw [if_neg c19] at H
          have c19b0 : decide (x40_3 < (l0_4.length : Int)) = false := decide_eq_false c19
          clear c19
          obtain rfl := Option.some.inj H
          go_wp2
          go_ret
          exact ⟨y12_, (y19_ GE255.out)⟩
end Go.Proofs.YtpnhjipaeggcpaaDoor.X
end
