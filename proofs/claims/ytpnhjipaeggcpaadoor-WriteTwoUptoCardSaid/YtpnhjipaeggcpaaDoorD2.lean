/- A part of a proof, put together by this session's own program out of its texts. -/
import Derived.Test.YtpnhjipaeggcpaaDoorD1
import Derived.Test.YtpnhjipaeggcpaaDoorProg
import Derived.Shelf.Unicode.DecodeSlow
import Derived.RangeFuncBox
import Derived.RangeFuncLeaves
import Derived.RangeFuncCalls
import Derived.RangeFuncWrites
import Derived.Shelf.Abstract
import Derived.OwnWalkIn
import Derived.TacticsInMore
import Derived.LoopNIn
import Derived.LoopIn
import Derived.Sort.QuietIn
set_option linter.unusedVariables false
set_option linter.unusedSimpArgs false
namespace Go.Proofs.YtpnhjipaeggcpaaDoor.X
theorem y0_ {p q0 : Prop} (a0 : q0) (t : q0 → p := by intro h0_; rw [h0_, List.length_take]; omega) : p := t a0
theorem y1_ {p : Prop} (t : p := by first | omega | exact Nat.le_refl _) : p := t
theorem y2_ {p : Prop} (t : p := by first | (with_reducible assumption) | assumption) : p := t
theorem y3_ {p : Prop} (t : p := by repeat (first | exact Drawn0.refl _ | apply Drawn0.step)) : p := t
theorem y4_ {p : Prop} (t : p := by first | exact Kd.N_base ho0 | exact Kd.N_base (Kd.S_N ho0)) : p := t
theorem y5_ {p : Prop} (t : p := by first | rfl | (simp; done) | (simp [*]; done) | (simp [bne_nil8]; done)) : p := t
theorem y6_ {p q0 : Prop} (a0 : q0) (t : q0 → p := by intro h0_; have := World.block_lt_of_cell? _ _ h0_; first | rwa [add_block] at this | exact this) : p := t a0
theorem y7_ {p : Prop} (t : p := by simp only [putAll, Act.put, List.setIfInBounds_toArray, List.set_cons_zero, List.set_cons_succ]) : p := t
theorem y8_ {p q0 : Prop} (a0 : q0) (t : q0 → p := by intro h0_; (with_reducible repeat (first | apply Kd.R_alloc | apply Kd.R_drewN | apply Kd.R_drew)); exact h0_) : p := t a0
theorem y9_ {p q0 : Prop} (a0 : q0) (t : q0 → p := by intro h0_; (with_reducible repeat (first | apply Kd.S_alloc | apply Kd.S_drewN | apply Kd.S_drew)); exact h0_) : p := t a0
theorem y10_ {p q0 : Prop} (a0 : q0) (t : q0 → p := by intro h0_; (with_reducible repeat (first | apply Kd.V_alloc | apply Kd.V_drewN | apply Kd.V_drew)); exact h0_) : p := t a0
theorem y11_ {p q0 : Prop} (a0 : q0) (t : q0 → p := by intro h0_; (with_reducible repeat (first | apply Kd.N_alloc | apply Kd.N_drewN | apply Kd.N_drew)); exact h0_) : p := t a0
theorem y12_ {p q0 : Prop} (a0 : q0) (t : q0 → p := by intro h0_; (with_reducible repeat (first | refine blk_drewN ?_ _ | refine blk_drew ?_ | refine blk_alloc ?_ _)); exact h0_) : p := t a0
theorem y13_ {p : Prop} (t : p := by first | rfl | (simp [errW_none, errW_some] <;> rfl) | (simp [*, errW_none, errW_some] <;> rfl) | (simp [bne_nil8]; done)) : p := t
theorem y14_ {p : Prop} (t : p := by repeat (first | (with_reducible first | exact HB.out | apply below_alloc | apply pw_below_drewN | apply below_drew1) | exact HB.out)) : p := t
theorem y15_ {p : Prop} (t : p := by (try simp only [List.map_toArray, List.map_cons, List.map_nil]); first | done | rfl | (simp only [List.length_drop, List.length_take]; rfl)) : p := t
theorem y16_ {p : Prop} (t : p := by first | exact Kd.R_nil _ _ _ _ _ | exact Kd.N_nil _ _ _ _ _ | exact Kd.V_nil _ _ _ _ _ | exact Kd.Q_nil _ _ _ _ _ | exact Kd.S_nil _ _ _ _ _) : p := t
theorem y17_ {p q0 : Prop} (a0 : q0) (t : q0 → p := by intro h0_; (with_reducible repeat (first | apply Kd.V_alloc | apply Kd.V_drewN | apply Kd.V_drew)); exact Kd.V_mono h0_ (fun _ hk => ⟨⟨hk.1, hk.2.2⟩, hk.2.1⟩)) : p := t a0
theorem y18_ {p q0 : Prop} (a0 : q0) (t : q0 → p := by intro h0_; (with_reducible repeat (first | apply Kd.S_alloc | apply Kd.S_drewN | apply Kd.S_drew)); exact Kd.S_mono h0_ (fun k_ hk => ⟨hk.2, fun e_ => hk.1 e_⟩)) : p := t a0
theorem y19_ {p q0 : Prop} (a0 : q0) (t : q0 → p := by intro h0_; repeat (first | (with_reducible first | exact HB.out | apply below_alloc | apply pw_below_drewN | apply below_drew1 | refine below_set ?_ h0_) | exact HB.out)) : p := t a0
theorem y20_ {p q0 : Prop} (a0 : q0) (t : q0 → p := by intro h0_; rw [hw]; exact (by repeat (first | (with_reducible first | exact HB.out | apply below_alloc | apply pw_below_drewN | apply below_drew1 | refine below_set ?_ h0_) | exact HB.out))) : p := t a0
theorem y21_ {p q0 q1 : Prop} (a0 : q0) (a1 : q1) (t : q0 → q1 → p := by intro h0_ h1_; repeat (first | (with_reducible first | exact HB.out | apply below_alloc | apply pw_below_drewN | apply below_drew1 | refine below_set ?_ h0_ | refine below_set ?_ h1_) | exact HB.out)) : p := t a0 a1
theorem y22_ {p : Prop} (t : p := by repeat (first | (with_reducible first | exact HB.out | apply below_alloc | apply pw_below_drewN | apply below_drew1) | exact HB.out | (refine below_set ?_ (Aside0.out (by assumption))))) : p := t
theorem y23_ {p : Prop} (t : p := by first | rfl | (simp [errW_none, errW_some] <;> rfl) | (simp only [← hji16]; first | rfl | (simp [errW_none, errW_some] <;> rfl)) | (simp [*, errW_none, errW_some] <;> rfl) | (simp [bne_nil8]; done)) : p := t
theorem y24_ {p q0 q1 q2 : Prop} (a0 : q0) (a1 : q1) (a2 : q2) (t : q0 → q1 → q2 → p := by intro h0_ h1_ h2_; repeat (first | (with_reducible first | exact HB.out | apply below_alloc | apply pw_below_drewN | apply below_drew1 | refine below_set ?_ h0_ | refine below_set ?_ h1_ | refine below_set ?_ h2_) | exact HB.out)) : p := t a0 a1 a2
theorem y25_ {p q0 : Prop} (a0 : q0) (t : q0 → p := by intro h0_; (with_reducible repeat (first | apply Kd.V_alloc | apply Kd.V_drewN | apply Kd.V_drew)); exact Kd.V_mono (Kd.V_far (p := ⟨gb105, 4, none⟩) (Kd.V_mono h0_ (fun k_ hk => (⟨hk, hk.2.2⟩ : _ ∧ k_ ≠ gb105))) (fun _ hk => hk.2) (.slice A104_4 y106.length c104_4)) (fun _ hk => ⟨hk.1.1, ⟨hk.1.2.1, hk.1.2.2⟩⟩)) : p := t a0
theorem y26_ {p q0 : Prop} (a0 : q0) (t : q0 → p := by intro h0_; rw [hw]; exact (by (with_reducible repeat (first | apply Kd.V_alloc | apply Kd.V_drewN | apply Kd.V_drew)); exact Kd.V_mono (Kd.V_far (p := ⟨gb105, 4, none⟩) (Kd.V_mono h0_ (fun k_ hk => (⟨hk, hk.2.2⟩ : _ ∧ k_ ≠ gb105))) (fun _ hk => hk.2) (.slice A104_4 y106.length c104_4)) (fun _ hk => ⟨hk.1.1, ⟨hk.1.2.1, hk.1.2.2⟩⟩))) : p := t a0
theorem y27_ {p q0 q1 : Prop} (a0 : q0) (a1 : q1) (t : q0 → q1 → p := by intro h0_ h1_; (with_reducible repeat (first | refine blk_drewN ?_ _ | refine blk_drew ?_ | refine blk_alloc ?_ _)); refine blk_far ?_ h0_ _; (with_reducible repeat (first | refine blk_drewN ?_ _ | refine blk_drew ?_ | refine blk_alloc ?_ _)); refine blk_far ?_ h0_ _; (with_reducible repeat (first | refine blk_drewN ?_ _ | refine blk_drew ?_ | refine blk_alloc ?_ _)); exact h1_) : p := t a0 a1
theorem y28_ {p q0 : Prop} (a0 : q0) (t : q0 → p := by intro h0_; (with_reducible repeat (first | refine blk_drewN ?_ _ | refine blk_drew ?_ | refine blk_alloc ?_ _)); refine blk_put (cs := #[.string ((rd_T41 l0_4 x32_2).f0), .string (⟨#[]⟩ : ByteArray)]) ?_ 1 _ rfl; (with_reducible repeat (first | refine blk_drewN ?_ _ | refine blk_drew ?_ | refine blk_alloc ?_ _)); refine blk_put (cs := #[.string (⟨#[]⟩ : ByteArray), .string (⟨#[]⟩ : ByteArray)]) ?_ 0 _ rfl; (with_reducible repeat (first | refine blk_drewN ?_ _ | refine blk_drew ?_ | refine blk_alloc ?_ _)); exact h0_) : p := t a0
theorem y29_ {p q0 q1 : Prop} (a0 : q0) (a1 : q1) (t : q0 → q1 → p := by intro h0_ h1_; first | exact Nat.ne_of_lt (Nat.lt_of_lt_of_le (by have := World.block_lt_of_cell? _ _ h0_; first | rwa [add_block] at this | exact this) h1_) | (rw [add_block]; exact Nat.ne_of_lt (Nat.lt_of_lt_of_le (by have := World.block_lt_of_cell? _ _ h0_; first | rwa [add_block] at this | exact this) h1_)) | (show (Addr.add _ _).block ≠ _; rw [add_block]; exact Nat.ne_of_lt (Nat.lt_of_lt_of_le (by have := World.block_lt_of_cell? _ _ h0_; first | rwa [add_block] at this | exact this) h1_)) | (dsimp only; exact Nat.ne_of_lt (Nat.lt_of_lt_of_le (by have := World.block_lt_of_cell? _ _ h0_; first | rwa [add_block] at this | exact this) h1_))) : p := t a0 a1
theorem y30_ {p q0 : Prop} (a0 : q0) (t : q0 → p := by intro h0_; (with_reducible repeat (first | apply Kd.V_alloc | apply Kd.V_drewN | apply Kd.V_drew)); exact Kd.V_mono (Kd.V_far (p := ⟨gb105, 4, none⟩) (Kd.V_far (p := ⟨gb105, 3, none⟩) (Kd.V_far (p := ⟨gb105, 2, none⟩) (Kd.V_far (p := ⟨gb105, 1, none⟩) (Kd.V_far (p := ⟨gb105, 0, none⟩) (Kd.V_mono h0_ (fun k_ hk => (⟨hk, hk.2⟩ : _ ∧ k_ ≠ gb105))) (fun _ hk => hk.2) (.int .i64 ((rd_T35 l0 x4_1).f0))) (fun _ hk => hk.2) (.int .i64 ((rd_T35 l0 x4_1).f1))) (fun _ hk => hk.2) (.string ((rd_T35 l0 x4_1).f2))) (fun _ hk => hk.2) (.string ((rd_T35 l0 x4_1).f3))) (fun _ hk => hk.2) (.slice A104_4 ((rd_T35 l0 x4_1).f4).length c104_4)) (fun _ hk => ⟨hk.1.1.1, ⟨hk.1.1.2, hk.1.2⟩⟩)) : p := t a0
theorem y31_ {p q0 : Prop} (a0 : q0) (t : q0 → p := by intro h0_; rw [hw]; exact (by (with_reducible repeat (first | apply Kd.V_alloc | apply Kd.V_drewN | apply Kd.V_drew)); exact Kd.V_mono (Kd.V_far (p := ⟨gb105, 4, none⟩) (Kd.V_far (p := ⟨gb105, 3, none⟩) (Kd.V_far (p := ⟨gb105, 2, none⟩) (Kd.V_far (p := ⟨gb105, 1, none⟩) (Kd.V_far (p := ⟨gb105, 0, none⟩) (Kd.V_mono h0_ (fun k_ hk => (⟨hk, hk.2⟩ : _ ∧ k_ ≠ gb105))) (fun _ hk => hk.2) (.int .i64 ((rd_T35 l0 x4_1).f0))) (fun _ hk => hk.2) (.int .i64 ((rd_T35 l0 x4_1).f1))) (fun _ hk => hk.2) (.string ((rd_T35 l0 x4_1).f2))) (fun _ hk => hk.2) (.string ((rd_T35 l0 x4_1).f3))) (fun _ hk => hk.2) (.slice A104_4 ((rd_T35 l0 x4_1).f4).length c104_4)) (fun _ hk => ⟨hk.1.1.1, ⟨hk.1.1.2, hk.1.2⟩⟩))) : p := t a0
theorem y32_ {p q0 : Prop} (a0 : q0) (t : q0 → p := by intro h0_; (with_reducible repeat (first | refine blk_drewN ?_ _ | refine blk_drew ?_ | refine blk_alloc ?_ _)); refine blk_put (cs := #[.int .i64 ((rd_T35 l0 a1).f0), .int .i64 ((rd_T35 l0 a1).f1), .string ((rd_T35 l0 a1).f2), .string ((rd_T35 l0 a1).f3), .slice none 0 0]) ?_ 4 _ rfl; (with_reducible repeat (first | refine blk_drewN ?_ _ | refine blk_drew ?_ | refine blk_alloc ?_ _)); refine blk_put (cs := #[.int .i64 ((rd_T35 l0 a1).f0), .int .i64 ((rd_T35 l0 a1).f1), .string ((rd_T35 l0 a1).f2), .string (⟨#[]⟩ : ByteArray), .slice none 0 0]) ?_ 3 _ rfl; (with_reducible repeat (first | refine blk_drewN ?_ _ | refine blk_drew ?_ | refine blk_alloc ?_ _)); refine blk_put (cs := #[.int .i64 ((rd_T35 l0 a1).f0), .int .i64 ((rd_T35 l0 a1).f1), .string (⟨#[]⟩ : ByteArray), .string (⟨#[]⟩ : ByteArray), .slice none 0 0]) ?_ 2 _ rfl; (with_reducible repeat (first | refine blk_drewN ?_ _ | refine blk_drew ?_ | refine blk_alloc ?_ _)); refine blk_put (cs := #[.int .i64 ((rd_T35 l0 a1).f0), .int .i64 0, .string (⟨#[]⟩ : ByteArray), .string (⟨#[]⟩ : ByteArray), .slice none 0 0]) ?_ 1 _ rfl; (with_reducible repeat (first | refine blk_drewN ?_ _ | refine blk_drew ?_ | refine blk_alloc ?_ _)); refine blk_put (cs := #[.int .i64 0, .int .i64 0, .string (⟨#[]⟩ : ByteArray), .string (⟨#[]⟩ : ByteArray), .slice none 0 0]) ?_ 0 _ rfl; (with_reducible repeat (first | refine blk_drewN ?_ _ | refine blk_drew ?_ | refine blk_alloc ?_ _)); exact h0_) : p := t a0
theorem y33_ {p q0 : Prop} (a0 : q0) (t : q0 → p := by intro h0_; (with_reducible repeat (first | refine blk_drewN ?_ _ | refine blk_drew ?_ | refine blk_alloc ?_ _)); refine blk_put (cs := #[.int .i64 ((rd_T35 l0 x18_2).f0), .int .i64 ((rd_T35 l0 x18_2).f1), .string ((rd_T35 l0 x18_2).f2), .string ((rd_T35 l0 x18_2).f3), .slice none 0 0]) ?_ 4 _ rfl; (with_reducible repeat (first | refine blk_drewN ?_ _ | refine blk_drew ?_ | refine blk_alloc ?_ _)); refine blk_put (cs := #[.int .i64 ((rd_T35 l0 x18_2).f0), .int .i64 ((rd_T35 l0 x18_2).f1), .string ((rd_T35 l0 x18_2).f2), .string (⟨#[]⟩ : ByteArray), .slice none 0 0]) ?_ 3 _ rfl; (with_reducible repeat (first | refine blk_drewN ?_ _ | refine blk_drew ?_ | refine blk_alloc ?_ _)); refine blk_put (cs := #[.int .i64 ((rd_T35 l0 x18_2).f0), .int .i64 ((rd_T35 l0 x18_2).f1), .string (⟨#[]⟩ : ByteArray), .string (⟨#[]⟩ : ByteArray), .slice none 0 0]) ?_ 2 _ rfl; (with_reducible repeat (first | refine blk_drewN ?_ _ | refine blk_drew ?_ | refine blk_alloc ?_ _)); refine blk_put (cs := #[.int .i64 ((rd_T35 l0 x18_2).f0), .int .i64 0, .string (⟨#[]⟩ : ByteArray), .string (⟨#[]⟩ : ByteArray), .slice none 0 0]) ?_ 1 _ rfl; (with_reducible repeat (first | refine blk_drewN ?_ _ | refine blk_drew ?_ | refine blk_alloc ?_ _)); refine blk_put (cs := #[.int .i64 0, .int .i64 0, .string (⟨#[]⟩ : ByteArray), .string (⟨#[]⟩ : ByteArray), .slice none 0 0]) ?_ 0 _ rfl; (with_reducible repeat (first | refine blk_drewN ?_ _ | refine blk_drew ?_ | refine blk_alloc ?_ _)); exact h0_) : p := t a0
theorem y34_ {p q0 : Prop} (a0 : q0) (t : q0 → p := by intro h0_; rw [hw]; exact (by (with_reducible repeat (first | refine blk_drewN ?_ _ | refine blk_drew ?_ | refine blk_alloc ?_ _)); refine blk_put (cs := #[.int .i64 ((rd_T35 l0 x18_2).f0), .int .i64 ((rd_T35 l0 x18_2).f1), .string ((rd_T35 l0 x18_2).f2), .string ((rd_T35 l0 x18_2).f3), .slice none 0 0]) ?_ 4 _ rfl; (with_reducible repeat (first | refine blk_drewN ?_ _ | refine blk_drew ?_ | refine blk_alloc ?_ _)); refine blk_put (cs := #[.int .i64 ((rd_T35 l0 x18_2).f0), .int .i64 ((rd_T35 l0 x18_2).f1), .string ((rd_T35 l0 x18_2).f2), .string (⟨#[]⟩ : ByteArray), .slice none 0 0]) ?_ 3 _ rfl; (with_reducible repeat (first | refine blk_drewN ?_ _ | refine blk_drew ?_ | refine blk_alloc ?_ _)); refine blk_put (cs := #[.int .i64 ((rd_T35 l0 x18_2).f0), .int .i64 ((rd_T35 l0 x18_2).f1), .string (⟨#[]⟩ : ByteArray), .string (⟨#[]⟩ : ByteArray), .slice none 0 0]) ?_ 2 _ rfl; (with_reducible repeat (first | refine blk_drewN ?_ _ | refine blk_drew ?_ | refine blk_alloc ?_ _)); refine blk_put (cs := #[.int .i64 ((rd_T35 l0 x18_2).f0), .int .i64 0, .string (⟨#[]⟩ : ByteArray), .string (⟨#[]⟩ : ByteArray), .slice none 0 0]) ?_ 1 _ rfl; (with_reducible repeat (first | refine blk_drewN ?_ _ | refine blk_drew ?_ | refine blk_alloc ?_ _)); refine blk_put (cs := #[.int .i64 0, .int .i64 0, .string (⟨#[]⟩ : ByteArray), .string (⟨#[]⟩ : ByteArray), .slice none 0 0]) ?_ 0 _ rfl; (with_reducible repeat (first | refine blk_drewN ?_ _ | refine blk_drew ?_ | refine blk_alloc ?_ _)); exact h0_)) : p := t a0
theorem y35_ {p q0 q1 : Prop} (a0 : q0) (a1 : q1) (t : q0 → q1 → p := by intro h0_ h1_; first | exact Nat.ne_of_lt (Nat.lt_of_lt_of_le (y6_ h0_) h1_) | (rw [add_block]; exact Nat.ne_of_lt (Nat.lt_of_lt_of_le (y6_ h0_) h1_)) | (show (Addr.add _ _).block ≠ _; rw [add_block]; exact Nat.ne_of_lt (Nat.lt_of_lt_of_le (y6_ h0_) h1_)) | (dsimp only; exact Nat.ne_of_lt (Nat.lt_of_lt_of_le (y6_ h0_) h1_))) : p := t a0 a1
end Go.Proofs.YtpnhjipaeggcpaaDoor.X
section
namespace Go.Proofs.YtpnhjipaeggcpaaDoor.X
open Go.RowKit
theorem bne_nil8 (l : List UInt8) : (l != []) = !l.isEmpty := by cases l <;> rfl
theorem lit_size (l : List UInt8) : (ByteArray.mk (List.toArray l)).size = l.length := rfl
def WF (w : World) : Prop :=
  Lib.Utf8Tabs 0 1 w ∧ ∃ m : Int, w.cell? ⟨2, 0, none⟩ = some (.int .i64 m)
theorem WF.below {w w1 : World} (h : WF w) (hb : Below w.heap.size w w1) : WF w1 := by
  obtain ⟨h1, m, hm⟩ := h
  exact ⟨Utf8Tabs_below h1 hb, m, (hb.cell (World.block_lt_of_cell? w _ hm)).trans hm⟩
end Go.Proofs.YtpnhjipaeggcpaaDoor.X
end
section
namespace Go.Proofs.YtpnhjipaeggcpaaDoor.X
open Go.RowKit Go.Proofs.YtpnhjipaeggcpaaDoorW.PrintWords Go.Proofs.YtpnhjipaeggcpaaDoorW.PrintLast Go.Proofs.YtpnhjipaeggcpaaDoorW.PrintMore
attribute [local go_sem] max2_int min2_int max_two min_two max_three min_three max_four min_four
def errW : Option Int → Value
  | none => .nilIface
  | some c => .iface 0 (.int .i64 c)
theorem errW_none : errW none = .nilIface := rfl
theorem errW_some (c : Int) : errW (some c) = .iface 0 (.int .i64 c) := rfl
theorem info9 : (Tryd.prog.info? 9).map (fun i => (i.zero, i.size, i.bytes)) = some (some (.string ⟨#[]⟩), 1, 16) := by kernel_rfl
theorem info35 : (Tryd.prog.info? 35).map (fun i => (i.zero, i.size, i.bytes)) = some (some (.agg #[(.int .i64 0), (.int .i64 0), (.string ⟨#[]⟩), (.string ⟨#[]⟩), (.slice none 0 0)]), 5, 72) := by kernel_rfl
theorem info41 : (Tryd.prog.info? 41).map (fun i => (i.zero, i.size, i.bytes)) = some (some (.agg #[(.string ⟨#[]⟩), (.string ⟨#[]⟩)]), 2, 32) := by kernel_rfl
structure S41 where
  f0 : ByteArray
  f1 : ByteArray
def z41 : S41 := ⟨(⟨#[]⟩ : ByteArray), (⟨#[]⟩ : ByteArray)⟩
def k41 : Kd S41 := Kd.iso (Kd.pair Kd.string Kd.string) (fun x : S41 => (x.f0, x.f1))
theorem k41_heap : Kd.Heap k41 := Kd.heap_iso _ (Kd.heap_pair Kd.heap_string Kd.heap_string)
theorem k41_open {w : World} {x : S41} {cs : List Value} (h : k41.K w x cs) : cs = [.string x.f0, .string x.f1] := by
  obtain ⟨_, _, rfl, rfl, rfl⟩ := h
  exact rfl
theorem k41_mk (w : World) (x : S41)  : k41.K w x [.string x.f0, .string x.f1] := ⟨[.string x.f0], [.string x.f1], rfl, rfl, rfl⟩
theorem k41_mkM (w : World) (base : Nat) (ok : Nat → Prop) (x : S41)  : k41.M w base ok x [.string x.f0, .string x.f1] := ⟨[.string x.f0], [.string x.f1], rfl, rfl, rfl⟩
def rd_T41 (xs : List S41) (i : Int) : S41 := xs.getD i.toNat z41
theorem at_T41 {w : World} {A : Option Addr} {n : Nat} {xs : List S41} (h : Kd.C k41 w A n xs) (i : Int) (h0 : 0 ≤ i) (h1 : i < n) : ∃ ad , A = some ad ∧ w.cell? (ad.add (i.toNat * 2)) = some (.string (rd_T41 xs i).f0) ∧ w.cell? ⟨(ad.add (i.toNat * 2)).block, (ad.add (i.toNat * 2)).off + 1, none⟩ = some (.string (rd_T41 xs i).f1) := by
  obtain ⟨ad, c, e, _, hK, hc0⟩ := Kd.C_get h z41 i h0 h1
  have hc : ∀ j u, c[j]? = some u → w.cell? (ad.add (i.toNat * 2 + j)) = some u := hc0
  obtain rfl := k41_open hK
  exact ⟨ad, e, hc 0 _ rfl, by rw [← add_field _ _ 1 (by omega)]; exact hc 1 _ rfl⟩
structure S35 where
  f0 : Int
  f1 : Int
  f2 : ByteArray
  f3 : ByteArray
  f4 : (List S41)
def z35 : S35 := ⟨(0 : Int), (0 : Int), (⟨#[]⟩ : ByteArray), (⟨#[]⟩ : ByteArray), ([] : List S41)⟩
def k35 : Kd S35 := Kd.iso (Kd.pair (Kd.int .i64) (Kd.pair (Kd.int .i64) (Kd.pair Kd.string (Kd.pair Kd.string (Kd.slice 41 k41))))) (fun x : S35 => (x.f0, x.f1, x.f2, x.f3, x.f4))
theorem k35_heap : Kd.Heap k35 := Kd.heap_iso _ (Kd.heap_pair (Kd.heap_int .i64) (Kd.heap_pair (Kd.heap_int .i64) (Kd.heap_pair Kd.heap_string (Kd.heap_pair Kd.heap_string (Kd.heap_slice 41 k41_heap)))))
theorem k35_open {w : World} {x : S35} {cs : List Value} (h : k35.K w x cs) : ∃ A4 c4, cs = [.int .i64 x.f0, .int .i64 x.f1, .string x.f2, .string x.f3, .slice A4 x.f4.length c4] ∧ x.f4.length ≤ c4 ∧ k41.C w A4 x.f4.length x.f4 := by
  obtain ⟨_, _, rfl, rfl, ⟨_, _, rfl, rfl, ⟨_, _, rfl, rfl, ⟨_, _, rfl, rfl, ⟨A4, c4, rfl, l4, g4⟩⟩⟩⟩⟩ := h
  exact ⟨A4, c4, rfl, l4, g4⟩
theorem k35_openM {w : World} {base : Nat} {ok : Nat → Prop} {x : S35} {cs : List Value} (h : k35.M w base ok x cs) : ∃ v4, cs = [.int .i64 x.f0, .int .i64 x.f1, .string x.f2, .string x.f3, v4] ∧ k41.R 41 w base ok v4 x.f4 := by
  obtain ⟨_, _, rfl, rfl, ⟨_, _, rfl, rfl, ⟨_, _, rfl, rfl, ⟨_, _, rfl, rfl, ⟨v4, rfl, g4⟩⟩⟩⟩⟩ := h
  exact ⟨v4, rfl, g4⟩
theorem k35_mk (w : World) (x : S35) {A4 : Option Addr} {c4 : Nat} (l4 : x.f4.length ≤ c4) (g4 : k41.C w A4 x.f4.length x.f4) : k35.K w x [.int .i64 x.f0, .int .i64 x.f1, .string x.f2, .string x.f3, .slice A4 x.f4.length c4] := ⟨[.int .i64 x.f0], [.int .i64 x.f1, .string x.f2, .string x.f3, .slice A4 x.f4.length c4], rfl, rfl, ⟨[.int .i64 x.f1], [.string x.f2, .string x.f3, .slice A4 x.f4.length c4], rfl, rfl, ⟨[.string x.f2], [.string x.f3, .slice A4 x.f4.length c4], rfl, rfl, ⟨[.string x.f3], [.slice A4 x.f4.length c4], rfl, rfl, ⟨A4, c4, rfl, l4, g4⟩⟩⟩⟩⟩
theorem k35_mkM (w : World) (base : Nat) (ok : Nat → Prop) (x : S35) {v4 : Value} (g4 : k41.R 41 w base ok v4 x.f4) : k35.M w base ok x [.int .i64 x.f0, .int .i64 x.f1, .string x.f2, .string x.f3, v4] := ⟨[.int .i64 x.f0], [.int .i64 x.f1, .string x.f2, .string x.f3, v4], rfl, rfl, ⟨[.int .i64 x.f1], [.string x.f2, .string x.f3, v4], rfl, rfl, ⟨[.string x.f2], [.string x.f3, v4], rfl, rfl, ⟨[.string x.f3], [v4], rfl, rfl, ⟨v4, rfl, g4⟩⟩⟩⟩⟩
theorem k35_openF {W : World} {ok : Nat → Prop} {x : S35} {cs : List Value} (h : Kd.FK k35 W ok x cs) : ∃ A4 c4, cs = [.int .i64 x.f0, .int .i64 x.f1, .string x.f2, .string x.f3, .slice A4 x.f4.length c4] ∧ x.f4.length ≤ c4 ∧ Kd.F k41 W ok A4 x.f4.length x.f4 := by
  obtain ⟨A4, c4, rfl, l4, _⟩ := k35_open (Kd.FK_now h)
  exact ⟨A4, c4, rfl, l4, (fun W' hW => by obtain ⟨A4_, c4_, he, l4_, g4_⟩ := k35_open (h W' hW); injection (Option.some.inj (show some (Value.slice A4 x.f4.length c4) = some (Value.slice A4_ x.f4.length c4_) from congrArg (fun l => l[4]?) he)) with ha_ _ _; rw [ha_]; exact g4_)⟩
theorem k35_mkF (W : World) (ok : Nat → Prop) (x : S35) {A4 : Option Addr} {c4 : Nat} (l4 : x.f4.length ≤ c4) (g4 : Kd.F k41 W ok A4 x.f4.length x.f4) : Kd.FK k35 W ok x [.int .i64 x.f0, .int .i64 x.f1, .string x.f2, .string x.f3, .slice A4 x.f4.length c4] := fun W2 hW => k35_mk W2 x l4 (g4 W2 hW)
def rd_T35 (xs : List S35) (i : Int) : S35 := xs.getD i.toNat z35
theorem at_T35 {w : World} {A : Option Addr} {n : Nat} {xs : List S35} (h : Kd.C k35 w A n xs) (i : Int) (h0 : 0 ≤ i) (h1 : i < n) : ∃ ad A4 c4, A = some ad ∧ w.cell? (ad.add (i.toNat * 5)) = some (.int .i64 (rd_T35 xs i).f0) ∧ w.cell? ⟨(ad.add (i.toNat * 5)).block, (ad.add (i.toNat * 5)).off + 1, none⟩ = some (.int .i64 (rd_T35 xs i).f1) ∧ w.cell? ⟨(ad.add (i.toNat * 5)).block, (ad.add (i.toNat * 5)).off + 2, none⟩ = some (.string (rd_T35 xs i).f2) ∧ w.cell? ⟨(ad.add (i.toNat * 5)).block, (ad.add (i.toNat * 5)).off + 3, none⟩ = some (.string (rd_T35 xs i).f3) ∧ w.cell? ⟨(ad.add (i.toNat * 5)).block, (ad.add (i.toNat * 5)).off + 4, none⟩ = some (.slice A4 (rd_T35 xs i).f4.length c4) ∧ (rd_T35 xs i).f4.length ≤ c4 ∧ k41.C w A4 (rd_T35 xs i).f4.length (rd_T35 xs i).f4 := by
  obtain ⟨ad, c, e, _, hK, hc0⟩ := Kd.C_get h z35 i h0 h1
  have hc : ∀ j u, c[j]? = some u → w.cell? (ad.add (i.toNat * 5 + j)) = some u := hc0
  obtain ⟨A4, c4, rfl, l4, g4⟩ := k35_open hK
  exact ⟨ad, A4, c4, e, hc 0 _ rfl, by rw [← add_field _ _ 1 (by omega)]; exact hc 1 _ rfl, by rw [← add_field _ _ 2 (by omega)]; exact hc 2 _ rfl, by rw [← add_field _ _ 3 (by omega)]; exact hc 3 _ rfl, by rw [← add_field _ _ 4 (by omega)]; exact hc 4 _ rfl, l4, g4⟩
end Go.Proofs.YtpnhjipaeggcpaaDoor.X
end
section
namespace Go.Proofs.YtpnhjipaeggcpaaDoor.X
open Go.RowKit Go.Proofs.YtpnhjipaeggcpaaDoorW.PrintWords Go.Proofs.YtpnhjipaeggcpaaDoorW.PrintLast Go.Proofs.YtpnhjipaeggcpaaDoorW.PrintMore
theorem row_at {w : World} {A : Option Addr} {n : Nat} {l : List S35} (h : Kd.C k35 w A n l) {k : Nat} {x : S35} (hx : l[k]? = some x) :
    ∃ ad A4 c4, A = some ad ∧ w.cell? (ad.add (k * 5)) = some (.int .i64 x.f0) ∧ w.cell? ⟨(ad.add (k * 5)).block, (ad.add (k * 5)).off + 1, none⟩ = some (.int .i64 x.f1) ∧
      w.cell? ⟨(ad.add (k * 5)).block, (ad.add (k * 5)).off + 2, none⟩ = some (.string x.f2) ∧ w.cell? ⟨(ad.add (k * 5)).block, (ad.add (k * 5)).off + 3, none⟩ = some (.string x.f3) ∧
      w.cell? ⟨(ad.add (k * 5)).block, (ad.add (k * 5)).off + 4, none⟩ = some (.slice A4 x.f4.length c4) ∧ x.f4.length ≤ c4 ∧ Kd.C k41 w A4 x.f4.length x.f4 := by
  have hk : k < l.length := (List.getElem?_eq_some_iff.1 hx).1
  have hn : l.length = n := h.1
  have e : rd_T35 l (k : Int) = x := by simp [rd_T35, hx]
  have := at_T35 h (k : Int) (by omega) (by omega)
  rw [e, Int.toNat_natCast] at this
  exact this
theorem attr_at {w : World} {A : Option Addr} {n : Nat} {l : List S41} (h : Kd.C k41 w A n l) {k : Nat} {x : S41} (hx : l[k]? = some x) :
    ∃ ad, A = some ad ∧ w.cell? (ad.add (k * 2)) = some (.string x.f0) ∧ w.cell? ⟨(ad.add (k * 2)).block, (ad.add (k * 2)).off + 1, none⟩ = some (.string x.f1) := by
  have hk : k < l.length := (List.getElem?_eq_some_iff.1 hx).1
  have hn : l.length = n := h.1
  have e : rd_T41 l (k : Int) = x := by simp [rd_T41, hx]
  have := at_T41 h (k : Int) (by omega) (by omega)
  rw [e, Int.toNat_natCast] at this
  exact this
theorem str_at {w : World} {A : Option Addr} {n : Nat} {l : List ByteArray} (h : Kd.C Kd.string w A n l) {k : Nat} {x : ByteArray} (hx : l[k]? = some x) :
    ∃ ad, A = some ad ∧ w.cell? (ad.add k) = some (.string x) := by
  have hk : k < l.length := (List.getElem?_eq_some_iff.1 hx).1
  have hn : l.length = n := h.1
  obtain ⟨ad, c, e, _, hK, hc0⟩ := Kd.C_get h (⟨#[]⟩ : ByteArray) (k : Int) (by omega) (by omega)
  obtain rfl : c = [.string (l.getD (k : Int).toNat ⟨#[]⟩)] := hK
  refine ⟨ad, e, ?_⟩
  have := hc0 0 _ rfl
  simpa [hx, show Kd.string.sz = 1 from rfl] using this
theorem int_at {w : World} {A : Option Addr} {n : Nat} {l : List Int} (h : Kd.C (Kd.int .i64) w A n l) {k : Nat} {x : Int} (hx : l[k]? = some x) :
    ∃ ad, A = some ad ∧ w.cell? (ad.add k) = some (.int .i64 x) := by
  have hk : k < l.length := (List.getElem?_eq_some_iff.1 hx).1
  have hn : l.length = n := h.1
  obtain ⟨ad, c, e, _, hK, hc0⟩ := Kd.C_get h (0 : Int) (k : Int) (by omega) (by omega)
  obtain rfl : c = [.int .i64 (l.getD (k : Int).toNat 0)] := hK
  refine ⟨ad, e, ?_⟩
  have := hc0 0 _ rfl
  simpa [hx, show (Kd.int .i64).sz = 1 from rfl] using this
theorem cell_alloc {w : World} {a : Addr} {v : Value} (h : w.cell? a = some v) (o : Obj) : (w.alloc o).cell? a = some v := by rw [World.cell?_alloc_lt _ _ _ (World.block_lt_of_cell? w _ h)]; exact h
theorem leO_le {α : Type} {f : Nat → Option α} (h : ∀ k, LeO (f k) (f (k + 1))) {r : α} {k : Nat} (hk : f k = some r) : ∀ {m : Nat}, k ≤ m → f m = some r := fun {m} hm => by
  obtain ⟨d, rfl⟩ := Nat.exists_eq_add_of_le hm
  clear hm
  induction d with
  | zero => exact hk
  | succ d ih => exact h _ _ ih
theorem getD_at {α : Type} {l : List α} {k : Nat} (hk : k < l.length) : ∃ x, l[k]? = some x ∧ l[k] = x := ⟨l[k], List.getElem?_eq_getElem hk, rfl⟩
end Go.Proofs.YtpnhjipaeggcpaaDoor.X
end
section
namespace Go.Proofs.YtpnhjipaeggcpaaDoor.X
open Go.RowKit Go.Proofs.YtpnhjipaeggcpaaDoorW.PrintWords Go.Proofs.YtpnhjipaeggcpaaDoorW.PrintLast Go.Proofs.YtpnhjipaeggcpaaDoorW.PrintMore
attribute [local go_sem] max2_int min2_int max_two min_two max_three min_three max_four min_four
def rows_is.f (l0 : List (S35)) (a1 : Int) : Option (Bool) := if a1 ≥ 0 then (some (decide (a1 < (l0.length : Int)))) else (some false)
set_option maxHeartbeats 8000000 in
set_option maxRecDepth 100000 in
theorem rows_is.calls (A0 : Option Addr) (c0 : Nat) (l0 : List (S35)) (a1 : Int) (r : Bool) (w : World) (hr0 : Kd.C k35 w A0 l0.length l0) (hc0 : l0.length ≤ c0) (h : rows_is.f l0 a1 = some r) :
  Calls Tryd.prog 59 #[.slice A0 l0.length c0, .int .i64 a1] w fun e w' => e = .returned (.bool r) ∧ Drawn0 w w' := by
 have HR0 := Aside0.mk hr0
 have HC0 := Aside0.mk hc0
 clear hr0 hc0
 have H : (if a1 ≥ 0 then (some (decide (a1 < (l0.length : Int)))) else (some false)) = some r := h
 clear h
 by_cases c3 : a1 ≥ 0
 ·rw [if_pos c3] at H
  have c3b0 : decide (0 ≤ a1) = true := decide_eq_true c3
  clear c3
  obtain rfl := Option.some.inj H
  go_enter Tryd.func59, Tryd.ntmps59
  go_wp2
  go_ret
  exact ⟨y5_, y3_⟩
 ·rw [if_neg c3] at H
  have c3b0 : decide (0 ≤ a1) = false := decide_eq_false c3
  clear c3
  obtain rfl := Option.some.inj H
  go_enter Tryd.func59, Tryd.ntmps59
  go_wp2
  go_ret
  exact ⟨y5_, y3_⟩
end Go.Proofs.YtpnhjipaeggcpaaDoor.X
end
section
namespace Go.Proofs.YtpnhjipaeggcpaaDoor.X
open Go.RowKit Go.Proofs.YtpnhjipaeggcpaaDoorW.PrintWords Go.Proofs.YtpnhjipaeggcpaaDoorW.PrintLast Go.Proofs.YtpnhjipaeggcpaaDoorW.PrintMore
attribute [local go_sem] max2_int min2_int max_two min_two max_three min_three max_four min_four
def rows_End.l0 : Nat → List (S35) → Int → Int → Option (Int)
 | 0, _, _, _ => none
 | k + 1, x0, x1, x5 => if x5 < (x0.length : Int) then (if 0 ≤ x5 then (if 0 ≤ x1 then (if x1 < (x0.length : Int) then (if ((rd_T35 x0 x5).f0) > ((rd_T35 x0 x1).f0) then (rows_End.l0 k x0 x1 (wrap64 (x5 + 1))) else (some x5)) else (none)) else (none)) else (none)) else (some x5)
def rows_End.f (k : Nat) (l0 : List (S35)) (a1 : Int) : Option (Int) := (rows_is.f l0 a1).bind fun t460 => (if t460 = true then (rows_End.l0 k l0 a1 (wrap64 (a1 + 1))) else (some 0))
theorem rows_End.mono_l : ∀ k, (∀ y0 y1 y2, LeO (rows_End.l0 k y0 y1 y2) (rows_End.l0 (k + 1) y0 y1 y2))
 | 0 => fun _ _ _ r h => by simp [rows_End.l0] at h
 | k + 1 => by
  have ih0 := rows_End.mono_l k
  ·intro y0 y1 y2
   unfold rows_End.l0
   repeat' first
   | (with_reducible exact ih0 _ _ _)
   | (with_reducible exact LeO.refl _)
   | (with_reducible exact LeO.none _)
   | (with_reducible refine LeO.ite ?_ ?_)
   | (with_reducible refine LeO.bind ?_ (fun _ => ?_))
   | exact ih0 _ _ _
   | exact LeO.none _
   | refine LeO.ite ?_ ?_
   | refine LeO.bind ?_ (fun _ => ?_)
set_option maxHeartbeats 8000000 in
set_option maxRecDepth 100000 in
theorem rows_End.calls (k : Nat) (A0 : Option Addr) (c0 : Nat) (l0 : List (S35)) (a1 : Int) (r : Int) (w : World) (hr0 : Kd.C k35 w A0 l0.length l0) (hc0 : l0.length ≤ c0) (h : rows_End.f k l0 a1 = some r) :
  Calls Tryd.prog 80 #[.slice A0 l0.length c0, .int .i64 a1] w fun e w' => e = .returned (.int .i64 r) ∧ Drawn0 w w' := by
 have HR0 := Aside0.mk hr0
 have HC0 := Aside0.mk hc0
 clear hr0 hc0
 have H : ((rows_is.f l0 a1).bind fun t460 => (if t460 = true then (rows_End.l0 k l0 a1 (wrap64 (a1 + 1))) else (some 0))) = some r := h
 clear h
 replace H := Option.bind_eq_some_iff.mp H
 obtain ⟨t460, A30, H⟩ := H
 have A3 := Aside0.mk A30
 clear A30
 by_cases c4 : t460 = true
 ·subst c4
  rw [if_pos rfl] at H
  have H' := Aside0.mk H
  clear H
  go_enter Tryd.func80, Tryd.ntmps80
  go_wp2_with (first | (go_at_call 59; (with_reducible refine (rows_is.calls _ _ l0 a1 true _ ?side1 ?side2 A3.out).mono ?_); (case side1 => repeat (first | exact HR0.out | (with_reducible refine Kd.C_alloc ?_ _) | (with_reducible refine Kd.C_drewN ?_ _) | (with_reducible refine Kd.C_drew ?_))); (case side2 => exact HC0.out); rintro e w' ⟨rfl, ⟨nd, rfl⟩⟩; (try first | exact ⟨rfl, _, World.drewN_drewN _ _ _⟩ | exact ⟨rfl, _, Eq.trans (World.drewN_drewN _ _ _) (congrArg (World.drewN _) (Nat.add_assoc _ _ _))⟩)))
  repeat (go_quiet (first | (go_at_call 59; (with_reducible refine (rows_is.calls _ _ l0 a1 true _ ?side1 ?side2 A3.out).mono ?_); (case side1 => repeat (first | exact HR0.out | (with_reducible refine Kd.C_alloc ?_ _) | (with_reducible refine Kd.C_drewN ?_ _) | (with_reducible refine Kd.C_drew ?_))); (case side2 => exact HC0.out); rintro e w' ⟨rfl, ⟨nd, rfl⟩⟩; (try first | exact ⟨rfl, _, World.drewN_drewN _ _ _⟩ | exact ⟨rfl, _, Eq.trans (World.drewN_drewN _ _ _) (congrArg (World.drewN _) (Nat.add_assoc _ _ _))⟩))); try go_wp2_with (first | (go_at_call 59; (with_reducible refine (rows_is.calls _ _ l0 a1 true _ ?side1 ?side2 A3.out).mono ?_); (case side1 => repeat (first | exact HR0.out | (with_reducible refine Kd.C_alloc ?_ _) | (with_reducible refine Kd.C_drewN ?_ _) | (with_reducible refine Kd.C_drew ?_))); (case side2 => exact HC0.out); rintro e w' ⟨rfl, ⟨nd, rfl⟩⟩; (try first | exact ⟨rfl, _, World.drewN_drewN _ _ _⟩ | exact ⟨rfl, _, Eq.trans (World.drewN_drewN _ _ _) (congrArg (World.drewN _) (Nat.add_assoc _ _ _))⟩))))
  go_loopg [5] k (fun kq v5 w' => ∃ (x5_1 : Int), v5 = .int .i64 x5_1 ∧ Aside0 (rows_End.l0 kq l0 a1 x5_1 = some r) ∧ Aside0 (kq ≤ k) ∧ Drawn0 w w')
  case atStart => exact ⟨(wrap64 (a1 + 1)), y5_, H', ⟨Nat.le_refl _⟩, y3_⟩
  case round =>
   clear H'
   try clear p2
   try clear c4
   obtain ⟨x5_1, rfl, HA, HK1, ⟨m1, rfl⟩⟩ := hrel
   cases gk with
   | zero => exact absurd HA.out (by simp [rows_End.l0])
   | succ k1 =>
    have H := HA.out
    clear HA
    simp only [rows_End.l0] at H
    by_cases c5 : x5_1 < (l0.length : Int)
    ·rw [if_pos c5] at H
     have c5b0 : decide (x5_1 < (l0.length : Int)) = true := decide_eq_true c5
     clear c5
     by_cases c6 : 0 ≤ x5_1
     rotate_left
     ·rw [if_neg c6] at H
      exact absurd H (by simp)
     rw [if_pos c6] at H
     have c6b0 : decide (0 ≤ x5_1) = true := decide_eq_true c6
     clear c6
     by_cases c7 : 0 ≤ a1
     rotate_left
     ·rw [if_neg c7] at H
      exact absurd H (by simp)
     rw [if_pos c7] at H
     have c7b0 : decide (0 ≤ a1) = true := decide_eq_true c7
     clear c7
     by_cases c8 : a1 < (l0.length : Int)
     rotate_left
     ·rw [if_neg c8] at H
      exact absurd H (by simp)
     rw [if_pos c8] at H
     have c8b0 : decide (a1 < (l0.length : Int)) = true := decide_eq_true c8
     clear c8
     by_cases c9 : ((rd_T35 l0 x5_1).f0) > ((rd_T35 l0 a1).f0)
     ·rw [if_pos c9] at H
      have c9b0 : decide (((rd_T35 l0 a1).f0) < ((rd_T35 l0 x5_1).f0)) = true := decide_eq_true c9
      clear c9
      have H' := Aside0.mk H
      clear H
      have p461 : 0 ≤ (x5_1 : Int) := of_decide_eq_true y2_
      have q461 : x5_1 < (l0.length : Int) := of_decide_eq_true y2_
      obtain ⟨ad461, A461_4, c461_4, e461, hx461_0, hx461_1, hx461_2, hx461_3, hx461_4, hl461_4, hi461_4⟩ := at_T35 HR0.out x5_1 p461 q461
      cases e461
      have HR461_4 := Aside0.mk hi461_4
      have HC461_4 := Aside0.mk hl461_4
      clear hi461_4 hl461_4
      replace p461 := eq_true p461
      replace q461 := eq_true q461
      have p462 : 0 ≤ (a1 : Int) := of_decide_eq_true y2_
      have q462 : a1 < (l0.length : Int) := of_decide_eq_true y2_
      obtain ⟨ad462, A462_4, c462_4, e462, hx462_0, hx462_1, hx462_2, hx462_3, hx462_4, hl462_4, hi462_4⟩ := at_T35 HR0.out a1 p462 q462
      obtain rfl : ad461 = ad462 := (by injection e462)
      try (have e_ := Option.some.inj (hx461_4.symm.trans hx462_4); injection e_ with ea_ eb_ ec_; rw [ea_, ec_] at hx461_4; clear ea_ eb_ ec_)
      have HR462_4 := Aside0.mk hi462_4
      have HC462_4 := Aside0.mk hl462_4
      clear hi462_4 hl462_4
      replace p462 := eq_true p462
      replace q462 := eq_true q462
      go_wp2
      repeat (go_quiet (fail); try go_wp2)
      go_roundg k1
      case measure => have := HK1.out; omega
      case rel => exact ⟨(wrap64 (x5_1 + 1)), y5_, H', ⟨by have := HK1.out; omega⟩, y3_⟩
     ·rw [if_neg c9] at H
      have c9b0 : decide (((rd_T35 l0 a1).f0) < ((rd_T35 l0 x5_1).f0)) = false := decide_eq_false c9
      clear c9
      obtain rfl := Option.some.inj H
      have p461 : 0 ≤ (x5_1 : Int) := of_decide_eq_true y2_
      have q461 : x5_1 < (l0.length : Int) := of_decide_eq_true y2_
      obtain ⟨ad461, A461_4, c461_4, e461, hx461_0, hx461_1, hx461_2, hx461_3, hx461_4, hl461_4, hi461_4⟩ := at_T35 HR0.out x5_1 p461 q461
      cases e461
      have HR461_4 := Aside0.mk hi461_4
      have HC461_4 := Aside0.mk hl461_4
      clear hi461_4 hl461_4
      replace p461 := eq_true p461
      replace q461 := eq_true q461
      have p462 : 0 ≤ (a1 : Int) := of_decide_eq_true y2_
      have q462 : a1 < (l0.length : Int) := of_decide_eq_true y2_
      obtain ⟨ad462, A462_4, c462_4, e462, hx462_0, hx462_1, hx462_2, hx462_3, hx462_4, hl462_4, hi462_4⟩ := at_T35 HR0.out a1 p462 q462
      obtain rfl : ad461 = ad462 := (by injection e462)
      try (have e_ := Option.some.inj (hx461_4.symm.trans hx462_4); injection e_ with ea_ eb_ ec_; rw [ea_, ec_] at hx461_4; clear ea_ eb_ ec_)
      have HR462_4 := Aside0.mk hi462_4
      have HC462_4 := Aside0.mk hl462_4
      clear hi462_4 hl462_4
      replace p462 := eq_true p462
      replace q462 := eq_true q462
      go_wp2
      repeat (go_quiet (fail); try go_wp2)
      go_ret
      exact ⟨y5_, y3_⟩
    ·rw [if_neg c5] at H
     have c5b0 : decide (x5_1 < (l0.length : Int)) = false := decide_eq_false c5
     clear c5
     obtain rfl := Option.some.inj H
     go_wp2
     repeat (go_quiet (fail); try go_wp2)
     go_ret
     exact ⟨y5_, y3_⟩
 ·replace c4 := Bool.eq_false_iff.mpr c4
  subst c4
  rw [if_neg (show ¬ (false = true) by decide)] at H
  obtain rfl := Option.some.inj H
  go_enter Tryd.func80, Tryd.ntmps80
  go_wp2_with (first | (go_at_call 59; (with_reducible refine (rows_is.calls _ _ l0 a1 false _ ?side1 ?side2 A3.out).mono ?_); (case side1 => repeat (first | exact HR0.out | (with_reducible refine Kd.C_alloc ?_ _) | (with_reducible refine Kd.C_drewN ?_ _) | (with_reducible refine Kd.C_drew ?_))); (case side2 => exact HC0.out); rintro e w' ⟨rfl, ⟨nd, rfl⟩⟩; (try first | exact ⟨rfl, _, World.drewN_drewN _ _ _⟩ | exact ⟨rfl, _, Eq.trans (World.drewN_drewN _ _ _) (congrArg (World.drewN _) (Nat.add_assoc _ _ _))⟩)))
  repeat (go_quiet (first | (go_at_call 59; (with_reducible refine (rows_is.calls _ _ l0 a1 false _ ?side1 ?side2 A3.out).mono ?_); (case side1 => repeat (first | exact HR0.out | (with_reducible refine Kd.C_alloc ?_ _) | (with_reducible refine Kd.C_drewN ?_ _) | (with_reducible refine Kd.C_drew ?_))); (case side2 => exact HC0.out); rintro e w' ⟨rfl, ⟨nd, rfl⟩⟩; (try first | exact ⟨rfl, _, World.drewN_drewN _ _ _⟩ | exact ⟨rfl, _, Eq.trans (World.drewN_drewN _ _ _) (congrArg (World.drewN _) (Nat.add_assoc _ _ _))⟩))); try go_wp2_with (first | (go_at_call 59; (with_reducible refine (rows_is.calls _ _ l0 a1 false _ ?side1 ?side2 A3.out).mono ?_); (case side1 => repeat (first | exact HR0.out | (with_reducible refine Kd.C_alloc ?_ _) | (with_reducible refine Kd.C_drewN ?_ _) | (with_reducible refine Kd.C_drew ?_))); (case side2 => exact HC0.out); rintro e w' ⟨rfl, ⟨nd, rfl⟩⟩; (try first | exact ⟨rfl, _, World.drewN_drewN _ _ _⟩ | exact ⟨rfl, _, Eq.trans (World.drewN_drewN _ _ _) (congrArg (World.drewN _) (Nat.add_assoc _ _ _))⟩))))
  go_ret
  exact ⟨y5_, y3_⟩
end Go.Proofs.YtpnhjipaeggcpaaDoor.X
end
section
namespace Go.Proofs.YtpnhjipaeggcpaaDoor.X
open Go.RowKit Go.Shelf Go.Proofs.YtpnhjipaeggcpaaDoorW.PrintWords Go.Proofs.YtpnhjipaeggcpaaDoorW.PrintLast Go.Proofs.YtpnhjipaeggcpaaDoorW.PrintMore
theorem wide_fn (f : FuncId) : Fence.wide.fn f = True := rfl
attribute [local go_sem] Oper.semAt_some wide_fn
def runDeep (d : Int) : List S35 → Nat
  | [] => 0
  | x :: r => if x.f0 > d then runDeep d r + 1 else 0
def endOf (l : List S35) (i : Nat) : Nat := i + 1 + runDeep ((rd_T35 l (i : Int)).f0) (l.drop (i + 1))
def rEnd (l : List S35) (i : Int) : Int := if 0 ≤ i ∧ i < (l.length : Int) then (endOf l i.toNat : Int) else 0
theorem runDeep_le (d : Int) : ∀ l, runDeep d l ≤ l.length
  | [] => Nat.le_refl _
  | x :: r => by
    have := runDeep_le d r
    unfold runDeep
    split <;> simp <;> omega
theorem endOf_le (l : List S35) (i : Nat) (hi : i < l.length) : i < endOf l i ∧ endOf l i ≤ l.length := by
  have := runDeep_le ((rd_T35 l (i : Int)).f0) (l.drop (i + 1))
  rw [List.length_drop] at this
  unfold endOf
  omega
theorem rEnd_loop (l : List S35) (i : Nat) (hi : i < l.length) (hmax : l.length ≤ 9223372036854775807) : ∀ (d k : Nat), k + d = l.length →
    rows_End.l0 (d + 1) l (i : Int) (k : Int) = some ((k + runDeep ((rd_T35 l (i : Int)).f0) (l.drop k) : Nat) : Int)
  | 0, k, hk => by
    simp only [rows_End.l0]
    rw [if_neg (by omega), List.drop_eq_nil_of_le (by omega)]
    rfl
  | d + 1, k, hk => by
    have hlt : k < l.length := by omega
    have ih := rEnd_loop l i hi hmax d (k + 1) (by omega)
    rw [List.drop_eq_getElem_cons hlt]
    have hrd : rd_T35 l (k : Int) = l[k] := by simp [rd_T35, hlt]
    rw [rows_End.l0, if_pos (by omega), if_pos (by omega), if_pos (by omega), if_pos (by omega), hrd, runDeep]
    split
    · rw [show wrap64 ((k : Int) + 1) = ((k + 1 : Nat) : Int) by unfold wrap64; omega, ih]
      congr 2
      omega
    · simp
theorem rEnd_is (l : List S35) (i : Int) (hmax : l.length ≤ 9223372036854775807) : rows_End.f (l.length + 1) l i = some (rEnd l i) := by
  unfold rows_End.f rows_is.f rEnd
  by_cases h : 0 ≤ i ∧ i < (l.length : Int)
  · obtain ⟨k, rfl⟩ := Int.eq_ofNat_of_zero_le h.1
    have hk : k < l.length := by omega
    rw [if_pos (by omega), if_pos h]
    simp only [Option.bind_some]
    rw [if_pos (by simpa using h.2), show wrap64 ((k : Int) + 1) = ((k + 1 : Nat) : Int) by unfold wrap64; omega]
    have := rEnd_loop l k hk hmax (l.length - (k + 1)) (k + 1) (by omega)
    rw [leO_le (f := fun q => rows_End.l0 q l (k : Int) ((k + 1 : Nat) : Int)) (fun q => rows_End.mono_l q _ _ _) this (by omega)]
    rfl
  · rw [if_neg h]
    by_cases h0 : i ≥ 0
    · rw [if_pos h0]
      simp only [Option.bind_some]
      rw [if_neg (by simp; omega)]
    · rw [if_neg h0]; rfl
def kidsGo (l : List S35) (e1 : Nat) : Nat → Nat → List Int
  | 0, _ => []
  | g + 1, k => if k < e1 then (k : Int) :: kidsGo l e1 g (endOf l k) else []
def kidsOf (l : List S35) (i : Int) : List Int := if i = -1 then kidsGo l l.length l.length 0 else kidsGo l (rEnd l i).toNat l.length (i.toNat + 1)
def rows_Kids.f (l0 : List S35) (a1 : Int) : Option (List Int) := if a1 = -1 ∨ (0 ≤ a1 ∧ a1 < (l0.length : Int)) then (if l0.length < 17592186044416 then some (kidsOf l0 a1) else none) else some []
theorem kidsGo_length (l : List S35) (e1 : Nat) (hto : e1 ≤ l.length) : ∀ g k, (kidsGo l e1 g k).length ≤ e1 - k
  | 0, k => Nat.zero_le _
  | g + 1, k => by
    unfold kidsGo
    split
    · have := kidsGo_length l e1 hto g (endOf l k)
      have := endOf_le l k (by omega)
      simp; omega
    · simp
def KidsKp (b b1 b2 : Nat) (A B : World) : Prop := Below b A B ∧ B.heap[b1]? = A.heap[b1]? ∧ B.heap[b2]? = A.heap[b2]?
theorem kidsKp_t {b b1 b2 : Nat} {A B C : World} (h : KidsKp b b1 b2 A B) (k : KidsKp b b1 b2 B C) : KidsKp b b1 b2 A C := ⟨h.1.trans k.1, k.2.1.trans h.2.1, k.2.2.trans h.2.2⟩
theorem kidsKp_refl (b b1 b2 : Nat) (A : World) : KidsKp b b1 b2 A A := ⟨Below.refl _ _, rfl, rfl⟩
theorem kidsKp_drewN {b b1 b2 : Nat} {A B : World} (h : KidsKp b b1 b2 A B) (n : Nat) : KidsKp b b1 b2 A (B.drewN n) := ⟨pw_below_drewN h.1 n, h.2.1, h.2.2⟩
theorem kids_block {W W' : World} {b : Nat} {t : TypeId} {v : Value} (h : W.heap[b]? = some (.cells #[v] t (0, 0))) (e : W'.heap[b]? = W.heap[b]?) : W'.cell? ⟨b, 0, none⟩ = some v := by
  have := e.trans h
  simp [World.cell?, this]
set_option maxRecDepth 100000 in
set_option maxHeartbeats 4000000 in
theorem kids1_in (l nb b1 b2 cap : Nat) (A : Option Addr) (rs : List S35) (i : Int) (hi : i = -1 ∨ (0 ≤ i ∧ i < (rs.length : Int))) (w0 : World) (hC : Kd.C k35 w0 A rs.length rs) (hcap : rs.length ≤ cap) (hnb : w0.heap.size ≤ nb) (J Jx : List Int → World → Prop)
    (hY : ∀ pre x W, J pre W → pre.length < (kidsOf rs i).length → YieldAt Fence.wide 1 Tryd.prog l #[.int .i64 x] W fun e W' =>
      (e = .returned (.bool true) ∧ J (pre ++ [x]) W' ∧ KidsKp nb b1 b2 W W') ∨ (e = .returned (.bool false) ∧ Jx (pre ++ [x]) W'))
    (W : World) (hb : Below w0.heap.size w0 W) (hB1 : W.heap[b1]? = some (.cells #[.slice A rs.length cap] 22 (0, 0))) (hB2 : W.heap[b2]? = some (.cells #[.int .i64 i] 3 (0, 0))) (hJ : ∀ pre n W, J pre W → J pre (W.drewN n)) (h0 : J [] W) :
    CallsIn Fence.wide 2 Tryd.prog 79 #[.func (.yield l) #[] #[], .pointer (some ⟨b1, 0, none⟩), .pointer (some ⟨b2, 0, none⟩)] W fun e W' => (∃ v, e = .returned v) ∧
      ((∃ ys, ys = kidsOf rs i ∧ J ys W') ∨ (∃ pre, True ∧ Jx pre W')) := by
  have hmax : rs.length ≤ 9223372036854775807 := hC.2.1
  have HC := Aside0.mk hC
  have HW := Aside0.mk hb
  have H1 := Aside0.mk hB1
  have H2 := Aside0.mk hB2
  have HE : ∀ (k : Nat) (V : World), Below w0.heap.size w0 V → Calls Tryd.prog 80 #[.slice A rs.length cap, .int .i64 k] V fun e w' => e = .returned (.int .i64 (rEnd rs k)) ∧ ∃ m, w' = V.drewN m := fun k V hV =>
    (rows_End.calls _ A cap rs k _ V (Kd.C_below HC.out hV) hcap (rEnd_is rs k hmax)).mono fun _ _ h => ⟨h.1, h.2.out⟩
  have HEA := Aside0.mk HE
  clear hC hb HE
  have c1_ := kids_block hB1 rfl
  have c2_ := kids_block hB2 rfl
  clear hB1 hB2
  refine callsIn_of_wp Tryd.func79 rfl trivial ?_ rfl
  simp only [Tryd.ntmps79, List.size_toArray, List.length_cons, List.length_nil, Nat.reduceAdd, Nat.reduceSub, Array.replicate_succ, Array.replicate_zero, List.push_toArray, List.append_toArray, List.nil_append, List.cons_append]
  obtain ⟨i0, hi0⟩ : ∃ i0, i0 = i := ⟨_, rfl⟩
  rw [← hi0] at hY
  rw [← hi0]
  by_cases h1 : i = -1
  · subst h1
    have HI := Aside0.mk (show kidsGo rs rs.length rs.length 0 = kidsOf rs i0 by rw [hi0]; rfl)
    clear hi0
    gi_wp2
    gi_quiet (fail)
    gi_wp2
    gi_loopw [6] (fun x wr => ∃ (k g : Nat) (pre : List Int), x = .int .i64 k ∧ rs.length ≤ k + g ∧ Aside0 (pre ++ kidsGo rs rs.length g k = kidsOf rs i0) ∧ Aside0 (J pre wr) ∧ Aside0 (KidsKp nb b1 b2 W wr))
      (fun x _ => rs.length - (intOf x).toNat)
    case atStart => exact ⟨0, rs.length, [], by simp, by omega, ⟨by rw [List.nil_append, HI.out]⟩, ⟨by first | exact hJ _ _ _ h0 | exact hJ _ _ _ (hJ _ _ _ h0)⟩, ⟨by first | exact kidsKp_drewN (kidsKp_refl _ _ _ _) _ | exact kidsKp_drewN (kidsKp_drewN (kidsKp_refl _ _ _ _) _) _⟩⟩
    case round =>
      obtain ⟨k, g, pre, rfl, hg, HP, HJ, HK⟩ := hrel
      have c1 := kids_block H1.out HK.out.2.1
      by_cases hlt : k < rs.length
      · have hlz : (k : Int) < ((rs.length : Nat) : Int) := by omega
        obtain ⟨g', rfl⟩ : ∃ g', g = g' + 1 := ⟨g - 1, by omega⟩
        have hp := HP.out
        rw [kidsGo, if_pos hlt] at hp
        have HP2 := Aside0.mk hp
        have hpl : pre.length < (kidsOf rs i0).length := by rw [← hp]; simp
        obtain ⟨fn, tmps, assign, body, hy, hR⟩ := hY pre (k : Int) wr HJ.out hpl
        (try dsimp only at hy)
        have hend := fun V hV => HEA.out k V hV
        have hen : rEnd rs (k : Int) = ((endOf rs k : Nat) : Int) := by unfold rEnd; exact if_pos (by omega)
        rw [hen] at hend
        have hel := endOf_le rs k (by omega)
        clear hp hen hpl
        gi_wp2
        refine hR.mono ?_
        rintro e W3 (⟨rfl, hJ3, hk3⟩ | ⟨rfl, hJx3⟩)
        · have HJ3 := Aside0.mk hJ3
          have HK3 := Aside0.mk (kidsKp_t HK.out hk3)
          clear hJ3 hk3 c1
          have c3 := kids_block H1.out HK3.out.2.1
          have hc3 := hend W3 (HW.out.trans (HK3.out.1.mono hnb))
          clear hend
          gi_wp2_with (gi_at_call 80; refine (callsIn_wide.2 hc3).mono ?_; clear hc3; rintro e w' ⟨rfl, m, rfl⟩)
          go_roundw
          case rel => exact ⟨endOf rs k, g', pre ++ [(k : Int)], rfl, by omega, ⟨by rw [← HP2.out]; simp⟩, ⟨hJ _ _ _ HJ3.out⟩, ⟨kidsKp_drewN HK3.out _⟩⟩
          case measure => simp [intOf]; omega
        · have HJ3 := Aside0.mk hJx3
          clear hJx3 hend
          gi_wp2
          refine bodyPost_ret (results_none rfl _ _ _) rfl ?_
          exact ⟨⟨_, rfl⟩, .inr ⟨_, trivial, HJ3.out⟩⟩
      · have hlz : ¬ (k : Int) < ((rs.length : Nat) : Int) := by omega
        have hp := HP.out
        have hnil : kidsGo rs rs.length g k = [] := by cases g <;> simp [kidsGo, hlt]
        rw [hnil, List.append_nil] at hp
        have HP2 := Aside0.mk hp
        clear hp hnil
        gi_wp2
        go_end0
        exact ⟨⟨_, rfl⟩, .inl (HP2.out ▸ HJ.out)⟩
  · obtain ⟨m, rfl⟩ : ∃ m : Nat, i = m := ⟨i.toNat, by omega⟩
    have hm : m < rs.length := by omega
    have hen : rEnd rs (m : Int) = ((endOf rs m : Nat) : Int) := by unfold rEnd; exact if_pos (by omega)
    have hle := (endOf_le rs m hm).2
    have HI := Aside0.mk (show kidsGo rs (endOf rs m) rs.length (m + 1) = kidsOf rs i0 by rw [hi0, kidsOf, if_neg h1, hen]; rfl)
    have hneg : ((m : Int) != -1) = true := bne_iff_ne.mpr (by omega)
    have hE0 := fun V hV => HEA.out m V hV
    rw [hen] at hE0
    clear hi0 hen
    gi_wp2
    gi_quiet (fail)
    gi_wp2
    gi_quiet (first | (gi_at_call 80 ; refine (callsIn_wide.2 (hE0 _ (pw_below_drewN HW.out _))).mono fun _ _ h => ⟨h.1, ?_⟩; obtain ⟨q, hq⟩ := h.2; exact ⟨_, by rw [hq, World.drewN_drewN, Nat.add_assoc]⟩))
    gi_wp2
    clear hE0 hneg
    gi_loopw [6] (fun x wr => ∃ (k g : Nat) (pre : List Int), x = .int .i64 k ∧ endOf rs m ≤ k + g ∧ Aside0 (pre ++ kidsGo rs (endOf rs m) g k = kidsOf rs i0) ∧ Aside0 (J pre wr) ∧ Aside0 (KidsKp nb b1 b2 W wr))
      (fun x _ => endOf rs m - (intOf x).toNat)
    case atStart => exact ⟨m + 1, rs.length, [], by simp, by omega, ⟨by rw [List.nil_append, HI.out]⟩, ⟨by first | exact hJ _ _ _ h0 | exact hJ _ _ _ (hJ _ _ _ h0)⟩, ⟨by first | exact kidsKp_drewN (kidsKp_refl _ _ _ _) _ | exact kidsKp_drewN (kidsKp_drewN (kidsKp_refl _ _ _ _) _) _⟩⟩
    case round =>
      obtain ⟨k, g, pre, rfl, hg, HP, HJ, HK⟩ := hrel
      have c1 := kids_block H1.out HK.out.2.1
      by_cases hlt : k < endOf rs m
      · have hlz : (k : Int) < ((endOf rs m : Nat) : Int) := by omega
        obtain ⟨g', rfl⟩ : ∃ g', g = g' + 1 := ⟨g - 1, by omega⟩
        have hp := HP.out
        rw [kidsGo, if_pos hlt] at hp
        have HP2 := Aside0.mk hp
        have hpl : pre.length < (kidsOf rs i0).length := by rw [← hp]; simp
        obtain ⟨fn, tmps, assign, body, hy, hR⟩ := hY pre (k : Int) wr HJ.out hpl
        (try dsimp only at hy)
        have hend := fun V hV => HEA.out k V hV
        have hen : rEnd rs (k : Int) = ((endOf rs k : Nat) : Int) := by unfold rEnd; exact if_pos (by omega)
        rw [hen] at hend
        have hel := endOf_le rs k (by omega)
        clear hp hen hpl
        gi_wp2
        refine hR.mono ?_
        rintro e W3 (⟨rfl, hJ3, hk3⟩ | ⟨rfl, hJx3⟩)
        · have HJ3 := Aside0.mk hJ3
          have HK3 := Aside0.mk (kidsKp_t HK.out hk3)
          clear hJ3 hk3 c1
          have c3 := kids_block H1.out HK3.out.2.1
          have hc3 := hend W3 (HW.out.trans (HK3.out.1.mono hnb))
          clear hend
          gi_wp2_with (gi_at_call 80; refine (callsIn_wide.2 hc3).mono ?_; clear hc3; rintro e w' ⟨rfl, m, rfl⟩)
          go_roundw
          case rel => exact ⟨endOf rs k, g', pre ++ [(k : Int)], rfl, by omega, ⟨by rw [← HP2.out]; simp⟩, ⟨hJ _ _ _ HJ3.out⟩, ⟨kidsKp_drewN HK3.out _⟩⟩
          case measure => simp [intOf]; omega
        · have HJ3 := Aside0.mk hJx3
          clear hJx3 hend
          gi_wp2
          refine bodyPost_ret (results_none rfl _ _ _) rfl ?_
          exact ⟨⟨_, rfl⟩, .inr ⟨_, trivial, HJ3.out⟩⟩
      · have hlz : ¬ (k : Int) < ((endOf rs m : Nat) : Int) := by omega
        have hp := HP.out
        have hnil : kidsGo rs (endOf rs m) g k = [] := by cases g <;> simp [kidsGo, hlt]
        rw [hnil, List.append_nil] at hp
        have HP2 := Aside0.mk hp
        clear hp hnil
        gi_wp2
        go_end0
        exact ⟨⟨_, rfl⟩, .inl (HP2.out ▸ HJ.out)⟩
set_option maxHeartbeats 1000000 in
theorem kids_in (a : Option Addr) (len cap : Nat) (i : Int) (w : World) :
    CallsIn Fence.wide 2 Tryd.prog 60 #[.slice a len cap, .int .i64 i] w fun e w' => e = .returned (.func (.func 79) #[] #[.pointer (some ⟨w.heap.size, 0, none⟩), .pointer (some ⟨w.heap.size + 1, 0, none⟩)]) ∧ w' = (w.alloc (.cells #[.slice a len cap] 22)).alloc (.cells #[.int .i64 i] 3) := by
  refine callsIn_of_wp Tryd.func60 rfl trivial ?_ rfl
  simp only [Tryd.ntmps60, List.size_toArray, List.length_cons, List.length_nil, Nat.reduceAdd, Nat.reduceSub, Array.replicate_succ, Array.replicate_zero, List.push_toArray, List.append_toArray, List.nil_append, List.cons_append]
  gi_wp2
  go_ret
  exact ⟨rfl, rfl⟩
def KidsI (b : Nat) (w W0 : World) (pre : List Int) (W : World) : Prop :=
  (∃ v, W.heap[b]? = some (.cells #[v] 29 (0, 0)) ∧ W.ownsRow (b + 3) 3 1 v pre.length (pre.map (.int .i64))) ∧ KidsKp b (b + 1) (b + 2) W0 W
theorem kidsI_own {b : Nat} {w W0 : World} (hs : W0.heap.size = b + 3) : OwnFrom (b + 3) (KidsI b w W0) := fun s A B row h hg hr => by
  obtain ⟨⟨v, h1, h2⟩, h3⟩ := h
  have hne : ∀ k o, A.heap[k]? = some o → o.isCells = true → some k ≠ row := fun k o ho hc e => by
    obtain ⟨_, o', ho', hc'⟩ := hr k e.symm
    rw [ho] at ho'; cases ho'; rw [hc] at hc'; cases hc'
  have hblk : ∀ k, k < b + 3 → k < A.heap.size → B.heap[k]? = A.heap[k]? := fun k hk hk' => hg.block k hk' (fun e => by have := (hr k e.symm).1; omega)
  have hA := h3.1.size
  refine ⟨⟨v, (hblk b (by omega) (by omega)).trans h1, h2.kept hg ?_⟩, h3.1.grown hg (by omega) (fun k e => by have := (hr k e).1; omega), (hblk _ (by omega) (by omega)).trans h3.2.1, (hblk _ (by omega) (by omega)).trans h3.2.2⟩
  rcases h2.2 with ⟨rfl, _⟩ | ⟨g, cp, cur, rfl, _, hgc, _⟩
  · exact .inl rfl
  · exact .inr (hne g _ hgc rfl)
theorem kids_lower {w : World} {b size n : Nat} {e : TypeId} {v : Value} {xs : List Value} (h : w.ownsRow (b + 3) e size v n xs) : w.ownsRow b e size v n xs :=
  ⟨h.1, h.2.elim .inl fun ⟨g, cap, cur, h1, h2, h3⟩ => .inr ⟨g, cap, cur, h1, by omega, h3⟩⟩
theorem kids_int : (Tryd.prog.info? 3).map (fun i => (i.zero, i.size, i.bytes)) = some (some (.int .i64 0), 1, 8) := by kernel_rfl
theorem kids_more {b : Nat} {w W0 W w2 : World} {pre : List Int} {x : Int} {v v' : Value} {o : Obj} (hs : W0.heap.size = b + 3) (h1 : W.heap[b]? = some (.cells #[v] 29 (0, 0))) (h2 : W.ownsRow (b + 3) 3 1 v pre.length (pre.map (.int .i64))) (h3 : KidsKp b (b + 1) (b + 2) W0 W)
    (h4 : w2.ownsRow (b + 3) 3 1 v' (pre.length + 1) (pre.map (.int .i64) ++ [.int .i64 x])) (hg : (W.alloc o).grownBy w2 v.ownBlock) :
    KeepsOthers W (w2.setCell ⟨b, 0, none⟩ v') ∧ KidsKp b (b + 1) (b + 2) W (w2.setCell ⟨b, 0, none⟩ v') ∧ KidsI b w W0 (pre ++ [x]) (w2.setCell ⟨b, 0, none⟩ v') ∧ Boxed w2 b 29 v := by
  have hA := h3.1.size
  have hvb : ∀ k, v.ownBlock = some k → b + 3 ≤ k ∧ ∃ cur, W.heap[k]? = some (.cells cur 3 (0, 0)) := fun k hk => by
    rcases h2.2 with ⟨rfl, _⟩ | ⟨g, cp, cur, rfl, hb, hgc, _⟩
    · cases hk
    · cases hk; exact ⟨hb, cur, hgc⟩
  have hblk : ∀ k, k < b + 3 → w2.heap[k]? = W.heap[k]? := fun k hk => (hg.block k (by simp; omega) (fun e => by have := (hvb k e.symm).1; omega)).trans (Below.heap_alloc W o k (by omega))
  have hset : ∀ k, k ≠ b → (w2.setCell ⟨b, 0, none⟩ v').heap[k]? = w2.heap[k]? := fun k hk => Below.heap_setCell w2 ⟨b, 0, none⟩ v' k hk
  have hkp : KidsKp b (b + 1) (b + 2) W (w2.setCell ⟨b, 0, none⟩ v') :=
    ⟨(((Below.refl b W).alloc (by omega) o).grown hg (by simp; omega) (fun k e => by have := (hvb k e).1; omega)).setCell (p := ⟨b, 0, none⟩) (Nat.le_refl _) _, (hset _ (by omega)).trans (hblk _ (by omega)), (hset _ (by omega)).trans (hblk _ (by omega))⟩
  refine ⟨((KeepsOthers.alloc W o).trans (KeepsOthers.of_grownBy hg (fun j o' hj ho => ?_))).trans (KeepsOthers.setCell _ _ _), hkp, ⟨⟨v', ?_, ?_⟩, kidsKp_t h3 hkp⟩, (hblk b (by omega)).trans h1⟩
  · obtain ⟨_, cur, hc⟩ := hvb j hj
    rw [Below.heap_alloc W o j (Array.getElem?_eq_some_iff.1 hc).1, hc] at ho
    cases ho; rfl
  · exact Boxed.set v' (show Boxed w2 b 29 v from (hblk b (by omega)).trans h1)
  · rw [List.length_append, List.map_append]
    refine ⟨h4.1, ?_⟩
    rcases h4.2 with h | ⟨g, cp, cur, e, hb, hgc, hr⟩
    · exact .inl h
    · exact .inr ⟨g, cp, cur, e, hb, (hset g (by omega)).trans hgc, hr⟩
theorem kidsOf_length (rs : List S35) (i : Int) (hi : i = -1 ∨ (0 ≤ i ∧ i < (rs.length : Int))) : (kidsOf rs i).length ≤ rs.length := by
  unfold kidsOf
  split
  · exact Nat.le_trans (kidsGo_length rs rs.length (Nat.le_refl _) _ _) (by omega)
  · obtain ⟨m, rfl⟩ : ∃ m : Nat, i = m := ⟨i.toNat, by omega⟩
    have hm : m < rs.length := by omega
    have hen : rEnd rs (m : Int) = ((endOf rs m : Nat) : Int) := by unfold rEnd; exact if_pos (by omega)
    have hle := (endOf_le rs m hm).2
    rw [hen]
    exact Nat.le_trans (kidsGo_length rs _ (by simpa using hle) _ _) (by simp; omega)
set_option maxRecDepth 100000 in
set_option maxHeartbeats 4000000 in
theorem kidsAll_in (A : Option Addr) (cap : Nat) (rs : List S35) (i : Int) (hi : i = -1 ∨ (0 ≤ i ∧ i < (rs.length : Int))) (w : World) (hC : Kd.C k35 w A rs.length rs) (hcap : rs.length ≤ cap) (hlen : rs.length < 17592186044416) :
    CallsIn Fence.wide 3 Tryd.prog 35 #[.slice A rs.length cap, .int .i64 i] w fun e W' => ∃ v, e = .returned v ∧ Kd.R (Kd.int .i64) 3 W' w.heap.size (fun _ => True) v (kidsOf rs i) ∧ Below w.heap.size w W' := by
  have HC := Aside0.mk hC
  have HIs : ∀ V, Below w.heap.size w V → i ≠ -1 → Calls Tryd.prog 59 #[.slice A rs.length cap, .int .i64 i] V fun e w' => e = .returned (.bool true) ∧ ∃ m, w' = V.drewN m := fun V hV hne =>
    (rows_is.calls A cap rs i true V (Kd.C_below HC.out hV) hcap (by unfold rows_is.f; rw [if_pos (by omega), decide_eq_true (by omega)])).mono fun _ _ h => ⟨h.1, h.2.out⟩
  clear hC
  refine callsIn_of_wp_marks Tryd.func35 rfl trivial ?_ rfl
  simp only [Tryd.ntmps35, List.size_toArray, List.length_cons, List.length_nil, Nat.reduceAdd, Nat.reduceSub, Array.replicate_succ, Array.replicate_zero, List.push_toArray, List.append_toArray, List.nil_append, List.cons_append]
  by_cases h1 : i = -1
  · subst h1
    clear HIs
    gi_wp2_with (gi_at_call 60; refine (kids_in _ _ _ _ _).mono ?_; rintro e w' ⟨rfl, rfl⟩)
    have hb0 := ((Boxed.new w 29 (.slice none 0 0)).alloc (.cells #[.slice A rs.length cap] 22)).alloc (.cells #[.int .i64 (-1)] 3)
    have hb1 := (Boxed.new (w.alloc (.cells #[.slice none 0 0] 29)) 22 (.slice A rs.length cap)).alloc (.cells #[.int .i64 (-1)] 3)
    have hb2 := Boxed.new ((w.alloc (.cells #[.slice none 0 0] 29)).alloc (.cells #[.slice A rs.length cap] 22)) 3 (.int .i64 (-1))
    simp only [World.size_alloc] at hb1 hb2
    obtain ⟨W0, hW0⟩ : ∃ W0, (((w.alloc (.cells #[.slice none 0 0] 29)).alloc (.cells #[.slice A rs.length cap] 22)).alloc (.cells #[.int .i64 (-1)] 3)) = W0 := ⟨_, rfl⟩
    rw [hW0] at hb0 hb1 hb2
    have hs : W0.heap.size = w.heap.size + 3 := by rw [← hW0, World.size_alloc, World.size_alloc, World.size_alloc] <;> rfl
    have hB0 : Below w.heap.size w W0 := by rw [← hW0]; exact (((Below.refl _ w).alloc (Nat.le_refl _) _).alloc (by rw [World.size_alloc]; exact Nat.le_succ _) _).alloc (by rw [World.size_alloc, World.size_alloc]; exact Nat.le_add_right _ 2) _
    rw [hW0]
    clear hW0
    have HB0 := Aside0.mk hB0
    have HS := Aside0.mk hs
    have h0 : KidsI w.heap.size w W0 [] W0 := ⟨⟨.slice none 0 0, hb0, World.ownsRow_nil _ _ _ _⟩, kidsKp_refl _ _ _ _⟩
    refine wpIn_rangeFunc_ownF rfl (by omega) (gf := 79) (lb := #[.pointer (some ⟨w.heap.size + 1, 0, none⟩), .pointer (some ⟨w.heap.size + 1 + 1, 0, none⟩)]) rfl trivial (enters_of Tryd.func79 (by kernel_rfl) rfl)
      (encs := fun x : Int => #[Value.int .i64 x]) (Kp := KidsKp w.heap.size (w.heap.size + 1) (w.heap.size + 2)) (S := fun ys => ys = kidsOf rs (-1)) (Sp := fun _ => True) (N := (kidsOf rs (-1)).length) (w0 := W0)
      (fun l J Jx W hW hJ _ hY hj0 => kids1_in l w.heap.size (w.heap.size + 1) (w.heap.size + 2) cap A rs (-1) (.inl rfl) w HC.out hcap (Nat.le_refl _) J Jx hY W (HB0.out.trans (hW.mono (by omega))) ((hW.block _ (by omega)).trans hb1) ((hW.block _ (by omega)).trans hb2) (fun pre n W h => hJ _ _ _ none h ⟨rfl, rfl, rfl, Nat.le_refl _, fun _ _ _ => rfl⟩ (fun _ e => by cases e)) hj0)
      (fun h k => kidsKp_t h k) (fun W l o o' hl hlo _ _ => ⟨belowK_b (w := W0) (by omega) W l o o' hl hlo (by assumption) (by assumption), World.putObj_heap_other (by omega), World.putObj_heap_other (by omega)⟩) (Below.refl _ _) (fun _ => rfl)
      (KidsI w.heap.size w W0) (fun _ _ _ => False) (by rw [hs]; exact kidsI_own hs) (fun _ => fun _ _ _ _ h _ _ => h) h0
      (fun x => { tmps := #[.slice A rs.length cap, .int .i64 (-1), undef, undef, .slice none 0 0, .pointer (some ⟨w.heap.size, 0, none⟩), .int .i64 x, .int .i64 (-1), .bool false, .bool false, undef, undef, undef, undef, .bool false, .slice A rs.length cap, .int .i64 (-1), .func (.func 79) #[] #[.pointer (some ⟨w.heap.size + 1, 0, none⟩), .pointer (some ⟨w.heap.size + 1 + 1, 0, none⟩)], .int .i64 x, undef, undef, undef, undef, undef], defers := [] }) ?assign ?body ?done ?stop
    case assign =>
      intro l x W K hK
      gi_wp2
      exact hK
    case stop =>
      rintro D c pre W hD _ hx
      exact hx.elim
    case body =>
      rintro l pre x W ⟨⟨v, h1, h2⟩, h3⟩ hpl
      have H1 := Aside0.mk h1
      have H2 := Aside0.mk h2
      have H3 := Aside0.mk h3
      have c1_ : W.cell? ⟨w.heap.size, 0, none⟩ = some v := kids_block h1 rfl
      have f1_ : W.frozen? ⟨w.heap.size, 0, none⟩ = false := Boxed.frozen h1
      have hkl := kidsOf_length rs (-1) (.inl rfl)
      obtain ⟨i0, hi0, hz0, hz1, hz2⟩ := info_parts kids_int
      clear h1 h2 h3
      have hex : W.heap.size + 1 = (W.alloc (.cells #[.int .i64 x] 3)).heap.size := by simp
      have hsz : w.heap.size + 3 ≤ W.heap.size := by have := H3.out.1.size; rw [HS.out] at this; exact this
      gi_wp2_with (gi_at_builtin; refine wpListIn_append_own _ rfl _ _ 29 rfl (w.heap.size + 3) 3 i0 (.int .i64 0) 1 8 Tryd.underlying29 hi0 hz0 hz1 hz2 rfl (by decide) _ _ _ rfl (H2.out.alloc _) ⟨W.heap.size, 0, none⟩ 1 1 [.int .i64 x] rfl rfl ?c1 ?c2 ?c3 ?c4 ?c5 ?_)
      case c1 =>
        intro j u hj
        match j, hj with
        | 0, hj => simp at hj; subst hj; simp [Addr.add]
      case c2 => intro u hu; simp at hu; subst hu; rfl
      case c3 => unfold maxLen; omega
      case c4 => omega
      case c5 => simp; omega
      intro v' w2 hown' hgrow _
      obtain ⟨k1, k2, k3, k4⟩ := kids_more (w := w) HS.out H1.out H2.out H3.out hown' hgrow
      have K1 := Aside0.mk k1
      have K2 := Aside0.mk k2
      have K3 := Aside0.mk k3
      have c2_ : w2.cell? ⟨w.heap.size, 0, none⟩ = some v := Boxed.cell k4
      have f2_ : w2.frozen? ⟨w.heap.size, 0, none⟩ = false := Boxed.frozen k4
      obtain ⟨ao, n', cap', rfl⟩ : ∃ ao n' cap', v' = .slice ao n' cap' := by
        rcases hown'.2 with ⟨hv, _⟩ | ⟨g, cap, cur, hv, _⟩
        · exact ⟨_, _, _, hv⟩
        · exact ⟨_, _, _, hv⟩
      clear k1 k2 k3 k4 hown' hgrow
      gi_wp2
      exact ⟨K1.out, K2.out, K3.out⟩
    case done =>
      rintro D ys W hD rfl ⟨⟨v, h1, h2⟩, h3⟩ hK
      have H1 := Aside0.mk h1
      have H2 := Aside0.mk h2
      have H3 := Aside0.mk h3
      have HK := Aside0.mk hK
      have c1_ : W.cell? ⟨w.heap.size, 0, none⟩ = some v := kids_block h1 rfl
      clear h1 h2 h3 hK
      gi_wp2
      refine ⟨by simp, .inl ⟨_, _, rfl, run_takeDeferred HK.out, ?_⟩⟩
      have hI := (kidsI_own (w := w) HS.out).putObj (.deferred none) ⟨⟨v, H1.out, H2.out⟩, H3.out⟩ (by rw [← HS.out]; exact hD) HK.out rfl
      obtain ⟨⟨v2, j1, j2⟩, j3⟩ := hI
      obtain rfl : v2 = v := by
        have e1 := (World.putObj_heap_other (w := W) (o := .deferred none) (show w.heap.size ≠ D by have := HS.out; omega)).symm.trans j1
        rw [H1.out] at e1
        injection e1 with e1; injection e1 with e1; injection e1 with e1; injection e1 with e1; exact e1.symm
      refine ⟨v2, ?_, v2, rfl, ?_, HB0.out.trans j3.1⟩
      · simp [results, Tryd.f35, go_sem]
      · exact Kd.R_of_own (kids_lower j2) (fun _ _ => trivial)
  · have h2 := HIs w (Below.refl _ _) h1
    have hneg : (i != -1) = true := bne_iff_ne.mpr h1
    gi_wp2_with (first | (gi_at_call 59; refine (callsIn_wide.2 h2).mono ?_; clear h2; rintro e w' ⟨rfl, m, rfl⟩) | (gi_at_call 60; refine (kids_in _ _ _ _ _).mono ?_; rintro e w' ⟨rfl, rfl⟩))
    have hb0 := ((Boxed.new (w.drewN m) 29 (.slice none 0 0)).alloc (.cells #[.slice A rs.length cap] 22)).alloc (.cells #[.int .i64 i] 3)
    have hb1 := (Boxed.new ((w.drewN m).alloc (.cells #[.slice none 0 0] 29)) 22 (.slice A rs.length cap)).alloc (.cells #[.int .i64 i] 3)
    have hb2 := Boxed.new (((w.drewN m).alloc (.cells #[.slice none 0 0] 29)).alloc (.cells #[.slice A rs.length cap] 22)) 3 (.int .i64 i)
    simp only [World.size_alloc] at hb1 hb2
    obtain ⟨W0, hW0⟩ : ∃ W0, ((((w.drewN m).alloc (.cells #[.slice none 0 0] 29)).alloc (.cells #[.slice A rs.length cap] 22)).alloc (.cells #[.int .i64 i] 3)) = W0 := ⟨_, rfl⟩
    rw [hW0] at hb0 hb1 hb2
    have hs : W0.heap.size = w.heap.size + 3 := by rw [← hW0, World.size_alloc, World.size_alloc, World.size_alloc] <;> rfl
    have hB0 : Below w.heap.size w W0 := by rw [← hW0]; exact (((pw_below_drewN (Below.refl _ w) m).alloc (Nat.le_refl _) _).alloc (by rw [World.size_alloc]; exact Nat.le_succ _) _).alloc (by rw [World.size_alloc, World.size_alloc]; exact Nat.le_add_right _ 2) _
    rw [hW0]
    clear hW0
    have HB0 := Aside0.mk hB0
    have HS := Aside0.mk hs
    have h0 : KidsI w.heap.size w W0 [] W0 := ⟨⟨.slice none 0 0, hb0, World.ownsRow_nil _ _ _ _⟩, kidsKp_refl _ _ _ _⟩
    refine wpIn_rangeFunc_ownF rfl (by omega) (gf := 79) (lb := #[.pointer (some ⟨w.heap.size + 1, 0, none⟩), .pointer (some ⟨w.heap.size + 1 + 1, 0, none⟩)]) rfl trivial (enters_of Tryd.func79 (by kernel_rfl) rfl)
      (encs := fun x : Int => #[Value.int .i64 x]) (Kp := KidsKp w.heap.size (w.heap.size + 1) (w.heap.size + 2)) (S := fun ys => ys = kidsOf rs i) (Sp := fun _ => True) (N := (kidsOf rs i).length) (w0 := W0)
      (fun l J Jx W hW hJ _ hY hj0 => kids1_in l w.heap.size (w.heap.size + 1) (w.heap.size + 2) cap A rs i hi w HC.out hcap (Nat.le_refl _) J Jx hY W (HB0.out.trans (hW.mono (by omega))) ((hW.block _ (by omega)).trans hb1) ((hW.block _ (by omega)).trans hb2) (fun pre n W h => hJ _ _ _ none h ⟨rfl, rfl, rfl, Nat.le_refl _, fun _ _ _ => rfl⟩ (fun _ e => by cases e)) hj0)
      (fun h k => kidsKp_t h k) (fun W l o o' hl hlo _ _ => ⟨belowK_b (w := W0) (by omega) W l o o' hl hlo (by assumption) (by assumption), World.putObj_heap_other (by omega), World.putObj_heap_other (by omega)⟩) (Below.refl _ _) (fun _ => rfl)
      (KidsI w.heap.size w W0) (fun _ _ _ => False) (by rw [hs]; exact kidsI_own hs) (fun _ => fun _ _ _ _ h _ _ => h) h0
      (fun x => { tmps := #[.slice A rs.length cap, .int .i64 i, undef, undef, .slice none 0 0, .pointer (some ⟨w.heap.size, 0, none⟩), .int .i64 x, .int .i64 i, .bool true, .bool true, .slice A rs.length cap, .int .i64 i, .bool true, .bool false, .bool false, .slice A rs.length cap, .int .i64 i, .func (.func 79) #[] #[.pointer (some ⟨w.heap.size + 1, 0, none⟩), .pointer (some ⟨w.heap.size + 1 + 1, 0, none⟩)], .int .i64 x, undef, undef, undef, undef, undef], defers := [] }) ?assign ?body ?done ?stop
    case assign =>
      intro l x W K hK
      gi_wp2
      exact hK
    case stop =>
      rintro D c pre W hD _ hx
      exact hx.elim
    case body =>
      rintro l pre x W ⟨⟨v, h1, h2⟩, h3⟩ hpl
      have H1 := Aside0.mk h1
      have H2 := Aside0.mk h2
      have H3 := Aside0.mk h3
      have c1_ : W.cell? ⟨w.heap.size, 0, none⟩ = some v := kids_block h1 rfl
      have f1_ : W.frozen? ⟨w.heap.size, 0, none⟩ = false := Boxed.frozen h1
      have hkl := kidsOf_length rs i hi
      obtain ⟨i0, hi0, hz0, hz1, hz2⟩ := info_parts kids_int
      clear h1 h2 h3
      have hex : W.heap.size + 1 = (W.alloc (.cells #[.int .i64 x] 3)).heap.size := by simp
      have hsz : w.heap.size + 3 ≤ W.heap.size := by have := H3.out.1.size; rw [HS.out] at this; exact this
      gi_wp2_with (gi_at_builtin; refine wpListIn_append_own _ rfl _ _ 29 rfl (w.heap.size + 3) 3 i0 (.int .i64 0) 1 8 Tryd.underlying29 hi0 hz0 hz1 hz2 rfl (by decide) _ _ _ rfl (H2.out.alloc _) ⟨W.heap.size, 0, none⟩ 1 1 [.int .i64 x] rfl rfl ?c1 ?c2 ?c3 ?c4 ?c5 ?_)
      case c1 =>
        intro j u hj
        match j, hj with
        | 0, hj => simp at hj; subst hj; simp [Addr.add]
      case c2 => intro u hu; simp at hu; subst hu; rfl
      case c3 => unfold maxLen; omega
      case c4 => omega
      case c5 => simp; omega
      intro v' w2 hown' hgrow _
      obtain ⟨k1, k2, k3, k4⟩ := kids_more (w := w) HS.out H1.out H2.out H3.out hown' hgrow
      have K1 := Aside0.mk k1
      have K2 := Aside0.mk k2
      have K3 := Aside0.mk k3
      have c2_ : w2.cell? ⟨w.heap.size, 0, none⟩ = some v := Boxed.cell k4
      have f2_ : w2.frozen? ⟨w.heap.size, 0, none⟩ = false := Boxed.frozen k4
      obtain ⟨ao, n', cap', rfl⟩ : ∃ ao n' cap', v' = .slice ao n' cap' := by
        rcases hown'.2 with ⟨hv, _⟩ | ⟨g, cap, cur, hv, _⟩
        · exact ⟨_, _, _, hv⟩
        · exact ⟨_, _, _, hv⟩
      clear k1 k2 k3 k4 hown' hgrow
      gi_wp2
      exact ⟨K1.out, K2.out, K3.out⟩
    case done =>
      rintro D ys W hD rfl ⟨⟨v, h1, h2⟩, h3⟩ hK
      have H1 := Aside0.mk h1
      have H2 := Aside0.mk h2
      have H3 := Aside0.mk h3
      have HK := Aside0.mk hK
      have c1_ : W.cell? ⟨w.heap.size, 0, none⟩ = some v := kids_block h1 rfl
      clear h1 h2 h3 hK
      gi_wp2
      refine ⟨by simp, .inl ⟨_, _, rfl, run_takeDeferred HK.out, ?_⟩⟩
      have hI := (kidsI_own (w := w) HS.out).putObj (.deferred none) ⟨⟨v, H1.out, H2.out⟩, H3.out⟩ (by rw [← HS.out]; exact hD) HK.out rfl
      obtain ⟨⟨v2, j1, j2⟩, j3⟩ := hI
      obtain rfl : v2 = v := by
        have e1 := (World.putObj_heap_other (w := W) (o := .deferred none) (show w.heap.size ≠ D by have := HS.out; omega)).symm.trans j1
        rw [H1.out] at e1
        injection e1 with e1; injection e1 with e1; injection e1 with e1; injection e1 with e1; exact e1.symm
      refine ⟨v2, ?_, v2, rfl, ?_, HB0.out.trans j3.1⟩
      · simp [results, Tryd.f35, go_sem]
      · exact Kd.R_of_own (kids_lower j2) (fun _ _ => trivial)
set_option maxHeartbeats 2000000 in
theorem rows_Kids.calls (A0 : Option Addr) (c0 : Nat) (l0 : List S35) (a1 : Int) (r : List Int) (w : World) (hr0 : Kd.C k35 w A0 l0.length l0) (hc0 : l0.length ≤ c0) (h : rows_Kids.f l0 a1 = some r) :
    Calls Tryd.prog 35 #[.slice A0 l0.length c0, .int .i64 a1] w fun e w' => ∃ v0_ : Value, e = .returned v0_ ∧ Kd.R (Kd.int .i64) 3 w' w.heap.size (fun _ => True) v0_ r ∧ Below w.heap.size w w' := by
  unfold rows_Kids.f at h
  split at h
  case isTrue hi =>
    split at h
    case isFalse => cases h
    rename_i hlen
    cases h
    exact callsIn_wide.1 (kidsAll_in A0 c0 l0 a1 hi w hr0 hc0 hlen)
  case isFalse hi =>
    cases h
    have hne : ¬ a1 = -1 := fun e => hi (.inl e)
    have hneg : (a1 != -1) = true := bne_iff_ne.mpr hne
    have hrow : rows_is.f l0 a1 = some false := by
      unfold rows_is.f
      by_cases h0 : a1 ≥ 0
      · rw [if_pos h0, decide_eq_false (fun h => hi (.inr ⟨h0, h⟩))]
      · rw [if_neg h0]
    have hc := rows_is.calls A0 c0 l0 a1 false w hr0 hc0 hrow
    clear hr0
    go_enter Tryd.func35, Tryd.ntmps35
    go_wp2_with (go_at_call 59; refine hc.mono ?_; rintro e w1 ⟨rfl, hd⟩)
    go_ret
    obtain ⟨n, rfl⟩ := hd.out
    exact ⟨_, rfl, Kd.R_nil _ _ _ _ _, pw_below_drewN (Below.refl _ _) _⟩
end Go.Proofs.YtpnhjipaeggcpaaDoor.X
end
section
namespace Go.Proofs.YtpnhjipaeggcpaaDoor.X
open Go.RowKit Go.Proofs.YtpnhjipaeggcpaaDoorW.PrintWords Go.Proofs.YtpnhjipaeggcpaaDoorW.PrintLast Go.Proofs.YtpnhjipaeggcpaaDoorW.PrintMore
attribute [local go_sem] max2_int min2_int max_two min_two max_three min_three max_four min_four
def stringslite_HasPrefix.f (a0 : ByteArray) (a1 : ByteArray) : Option (Bool) := if (a0.size : Int) ≥ (a1.size : Int) then (if 0 ≤ (a1.size : Int) then (if (a1.size : Int) ≤ (a0.size : Int) then (some ((a0.extract 0 ((a1.size : Int) : Int).toNat).toList == a1.toList)) else (none)) else (none)) else (some false)
set_option maxHeartbeats 8000000 in
set_option maxRecDepth 100000 in
theorem stringslite_HasPrefix.calls (a0 : ByteArray) (a1 : ByteArray) (r : Bool) (w : World) (h : stringslite_HasPrefix.f a0 a1 = some r) :
  Calls Tryd.prog 71 #[.string a0, .string a1] w fun e w' => e = .returned (.bool r) ∧ Drawn0 w w' := by
 have H : (if (a0.size : Int) ≥ (a1.size : Int) then (if 0 ≤ (a1.size : Int) then (if (a1.size : Int) ≤ (a0.size : Int) then (some ((a0.extract 0 ((a1.size : Int) : Int).toNat).toList == a1.toList)) else (none)) else (none)) else (some false)) = some r := h
 clear h
 by_cases c3 : (a0.size : Int) ≥ (a1.size : Int)
 ·rw [if_pos c3] at H
  have c3b0 : decide ((a1.size : Int) ≤ (a0.size : Int)) = true := decide_eq_true c3
  have c3b1 : decide (a1.size ≤ a0.size) = true := decide_eq_true (Int.ofNat_le.mp c3)
  clear c3
  by_cases c4 : 0 ≤ (a1.size : Int)
  rotate_left
  ·rw [if_neg c4] at H
   exact absurd H (by simp)
  rw [if_pos c4] at H
  have c4b0 := eq_true c4
  have c4b1 : decide (0 ≤ (a1.size : Int)) = true := decide_eq_true c4
  clear c4
  by_cases c5 : (a1.size : Int) ≤ (a0.size : Int)
  rotate_left
  ·rw [if_neg c5] at H
   exact absurd H (by simp)
  rw [if_pos c5] at H
  have c5b0 := eq_true c5
  have c5b1 : decide ((a1.size : Int) ≤ (a0.size : Int)) = true := decide_eq_true c5
  clear c5
  obtain rfl := Option.some.inj H
  go_enter Tryd.func71, Tryd.ntmps71
  go_wp2
  go_ret
  exact ⟨y5_, y3_⟩
 ·rw [if_neg c3] at H
  have c3b0 : decide ((a1.size : Int) ≤ (a0.size : Int)) = false := decide_eq_false c3
  have c3b1 : decide (a1.size ≤ a0.size) = false := decide_eq_false (fun h => c3 (Int.ofNat_le.mpr h))
  clear c3
  obtain rfl := Option.some.inj H
  go_enter Tryd.func71, Tryd.ntmps71
  go_wp2
  go_ret
  exact ⟨y5_, y3_⟩
end Go.Proofs.YtpnhjipaeggcpaaDoor.X
end
section
namespace Go.Proofs.YtpnhjipaeggcpaaDoor.X
open Go.RowKit Go.Proofs.YtpnhjipaeggcpaaDoorW.PrintWords Go.Proofs.YtpnhjipaeggcpaaDoorW.PrintLast Go.Proofs.YtpnhjipaeggcpaaDoorW.PrintMore
attribute [local go_sem] max2_int min2_int max_two min_two max_three min_three max_four min_four
def strings_HasPrefix.f (a0 : ByteArray) (a1 : ByteArray) : Option (Bool) := (stringslite_HasPrefix.f a0 a1).bind fun t272 => (some t272)
set_option maxHeartbeats 8000000 in
set_option maxRecDepth 100000 in
theorem strings_HasPrefix.calls (a0 : ByteArray) (a1 : ByteArray) (r : Bool) (w : World) (h : strings_HasPrefix.f a0 a1 = some r) :
  Calls Tryd.prog 52 #[.string a0, .string a1] w fun e w' => e = .returned (.bool r) ∧ Drawn0 w w' := by
 have H : ((stringslite_HasPrefix.f a0 a1).bind fun t272 => (some t272)) = some r := h
 clear h
 replace H := Option.bind_eq_some_iff.mp H
 obtain ⟨t272, A30, H⟩ := H
 have A3 := Aside0.mk A30
 clear A30
 obtain rfl := Option.some.inj H
 go_enter Tryd.func52, Tryd.ntmps52
 go_wp2_with (first | ((with_reducible refine gate_callee (f := 71) rfl ?_); refine goesL_ (some 7) rfl rfl Tryd.func71 (by kernel_rfl) rfl #[.string a0, .string a1] rfl y15_ ?_; (with_reducible refine (stringslite_HasPrefix.calls a0 a1 t272 _ A3.out).mono ?_); rintro e w' ⟨rfl, ⟨nd, rfl⟩⟩; refine ⟨_, rfl, ?_⟩))
 go_ret
 exact ⟨y5_, y3_⟩
end Go.Proofs.YtpnhjipaeggcpaaDoor.X
end
section
namespace Go.Proofs.YtpnhjipaeggcpaaDoor.X
open Go.RowKit Go.Proofs.YtpnhjipaeggcpaaDoorW.PrintWords Go.Proofs.YtpnhjipaeggcpaaDoorW.PrintLast Go.Proofs.YtpnhjipaeggcpaaDoorW.PrintMore
attribute [local go_sem] max2_int min2_int max_two min_two max_three min_three max_four min_four
def names_among.l0 : Nat → ByteArray → List ByteArray → Int → Int → Option (Bool)
 | 0, _, _, _, _ => none
 | k + 1, x0, x7, x8, x9 => if x9 < x8 then (if 0 ≤ x9 then (if x9 < (x7.length : Int) then (if (rdOf ByteArray.empty x7 x9).toList = x0.toList then (some true) else (names_among.l0 k x0 x7 x8 (wrap64 (x9 + 1)))) else (none)) else (none)) else (some false)
def names_among.f (k : Nat) (a0 : ByteArray) (l1 : List ByteArray) : Option (Bool) := names_among.l0 k a0 l1 (l1.length : Int) 0
theorem names_among.mono_l : ∀ k, (∀ y0 y1 y2 y3, LeO (names_among.l0 k y0 y1 y2 y3) (names_among.l0 (k + 1) y0 y1 y2 y3))
 | 0 => fun _ _ _ _ r h => by simp [names_among.l0] at h
 | k + 1 => by
  have ih0 := names_among.mono_l k
  ·intro y0 y1 y2 y3
   unfold names_among.l0
   repeat' first
   | (with_reducible exact ih0 _ _ _ _)
   | (with_reducible exact LeO.refl _)
   | (with_reducible exact LeO.none _)
   | (with_reducible refine LeO.ite ?_ ?_)
   | (with_reducible refine LeO.bind ?_ (fun _ => ?_))
   | exact ih0 _ _ _ _
   | exact LeO.none _
   | refine LeO.ite ?_ ?_
   | refine LeO.bind ?_ (fun _ => ?_)
theorem names_among.mono : ∀ a0 a1 k, LeO (names_among.f k a0 a1) (names_among.f (k + 1) a0 a1) := by
 intro a0 a1 k
 have ih0 := names_among.mono_l k
 unfold names_among.f
 repeat' first
   | (with_reducible exact ih0 _ _ _ _)
   | (with_reducible exact LeO.refl _)
   | (with_reducible exact LeO.none _)
   | (with_reducible refine LeO.ite ?_ ?_)
   | (with_reducible refine LeO.bind ?_ (fun _ => ?_))
   | exact ih0 _ _ _ _
   | exact LeO.none _
   | refine LeO.ite ?_ ?_
   | refine LeO.bind ?_ (fun _ => ?_)
set_option maxHeartbeats 8000000 in
set_option maxRecDepth 100000 in
theorem names_among.calls (k : Nat) (a0 : ByteArray) (A1 : Option Addr) (c1 : Nat) (l1 : List ByteArray) (r : Bool) (w : World) (hr1 : Kd.C Kd.string w A1 l1.length l1) (hc1 : l1.length ≤ c1) (h : names_among.f k a0 l1 = some r) :
  Calls Tryd.prog 42 #[.string a0, .slice A1 l1.length c1] w fun e w' => e = .returned (.bool r) ∧ Drawn0 w w' := by
 have HR1 := Aside0.mk hr1
 have HC1 := Aside0.mk hc1
 clear hr1 hc1
 have H : (names_among.l0 k a0 l1 (l1.length : Int) 0) = some r := h
 clear h
 have H' := Aside0.mk H
 clear H
 go_enter Tryd.func42, Tryd.ntmps42
 go_wp2
 go_loopg [9] k (fun kq v9 w' => ∃ (x9_1 : Int), v9 = .int .i64 x9_1 ∧ Aside0 (names_among.l0 kq a0 l1 (l1.length : Int) x9_1 = some r) ∧ Aside0 (kq ≤ k) ∧ Drawn0 w w')
 case atStart => exact ⟨(0), y5_, H', ⟨Nat.le_refl _⟩, y3_⟩
 case round =>
  clear H'
  try clear c1
  try clear p2
  obtain ⟨x9_1, rfl, HA, HK1, ⟨m1, rfl⟩⟩ := hrel
  cases gk with
  | zero => exact absurd HA.out (by simp [names_among.l0])
  | succ k1 =>
   have H := HA.out
   clear HA
   simp only [names_among.l0] at H
   by_cases c3 : x9_1 < (l1.length : Int)
   ·rw [if_pos c3] at H
    have c3b0 : decide (x9_1 < (l1.length : Int)) = true := decide_eq_true c3
    clear c3
    by_cases c4 : 0 ≤ x9_1
    rotate_left
    ·rw [if_neg c4] at H
     exact absurd H (by simp)
    rw [if_pos c4] at H
    have c4b0 : decide (0 ≤ x9_1) = true := decide_eq_true c4
    clear c4
    by_cases c5 : x9_1 < (l1.length : Int)
    rotate_left
    ·rw [if_neg c5] at H
     exact absurd H (by simp)
    rw [if_pos c5] at H
    have c5b0 : decide (x9_1 < (l1.length : Int)) = true := decide_eq_true c5
    clear c5
    by_cases c6 : (rdOf ByteArray.empty l1 x9_1).toList = a0.toList
    ·rw [if_pos c6] at H
     have c6b0 : ((rdOf ByteArray.empty l1 x9_1).toList == a0.toList) = true := beq_iff_eq.mpr c6
     have c6b1 : ((rdOf ByteArray.empty l1 x9_1).toList != a0.toList) = false := bne_eq_false_iff_eq.mpr c6
     clear c6
     obtain rfl := Option.some.inj H
     have p185 : 0 ≤ (x9_1 : Int) := of_decide_eq_true y2_
     have q185 : x9_1 < (l1.length : Int) := of_decide_eq_true y2_
     obtain ⟨ad185, e185, hx185_0⟩ := Kd.at_string HR1.out x9_1 p185 q185
     cases e185
     replace p185 := eq_true p185
     replace q185 := eq_true q185
     go_wp2
     go_ret
     exact ⟨y5_, y3_⟩
    ·rw [if_neg c6] at H
     have c6b0 : ((rdOf ByteArray.empty l1 x9_1).toList == a0.toList) = false := beq_eq_false_iff_ne.mpr c6
     have c6b1 : ((rdOf ByteArray.empty l1 x9_1).toList != a0.toList) = true := bne_iff_ne.mpr c6
     have H' := Aside0.mk H
     clear H
     have p185 : 0 ≤ (x9_1 : Int) := of_decide_eq_true y2_
     have q185 : x9_1 < (l1.length : Int) := of_decide_eq_true y2_
     obtain ⟨ad185, e185, hx185_0⟩ := Kd.at_string HR1.out x9_1 p185 q185
     cases e185
     replace p185 := eq_true p185
     replace q185 := eq_true q185
     go_wp2
     go_roundg k1
     case measure => have := HK1.out; omega
     case rel => exact ⟨(wrap64 (x9_1 + 1)), y5_, H', ⟨by have := HK1.out; omega⟩, y3_⟩
   ·rw [if_neg c3] at H
    have c3b0 : decide (x9_1 < (l1.length : Int)) = false := decide_eq_false c3
    clear c3
    obtain rfl := Option.some.inj H
    go_wp2
    go_ret
    exact ⟨y5_, y3_⟩
end Go.Proofs.YtpnhjipaeggcpaaDoor.X
end
section
namespace Go.Proofs.YtpnhjipaeggcpaaDoor.X
open Go.RowKit Go.Proofs.YtpnhjipaeggcpaaDoorW.PrintWords Go.Proofs.YtpnhjipaeggcpaaDoorW.PrintLast Go.Proofs.YtpnhjipaeggcpaaDoorW.PrintMore
attribute [local go_sem] max2_int min2_int max_two min_two max_three min_three max_four min_four
def names_Raw.f (k : Nat) (a0 : ByteArray) : Option (Bool) := (names_among.f k a0 (([(⟨#[105, 102, 114, 97, 109, 101]⟩ : ByteArray), (⟨#[110, 111, 101, 109, 98, 101, 100]⟩ : ByteArray), (⟨#[110, 111, 102, 114, 97, 109, 101, 115]⟩ : ByteArray), (⟨#[115, 99, 114, 105, 112, 116]⟩ : ByteArray), (⟨#[115, 116, 121, 108, 101]⟩ : ByteArray), (⟨#[120, 109, 112]⟩ : ByteArray)] : List ByteArray))).bind fun t382 => (some t382)
set_option maxHeartbeats 8000000 in
set_option maxRecDepth 100000 in
theorem names_Raw.calls (k : Nat) (a0 : ByteArray) (r : Bool) (w : World) (h : names_Raw.f k a0 = some r) :
  Calls Tryd.prog 40 #[.string a0] w fun e w' => e = .returned (.bool r) ∧ Below w.heap.size w w' := by
 have HB := Aside0.mk (Below.refl w.heap.size w)
 have H : ((names_among.f k a0 (([(⟨#[105, 102, 114, 97, 109, 101]⟩ : ByteArray), (⟨#[110, 111, 101, 109, 98, 101, 100]⟩ : ByteArray), (⟨#[110, 111, 102, 114, 97, 109, 101, 115]⟩ : ByteArray), (⟨#[115, 99, 114, 105, 112, 116]⟩ : ByteArray), (⟨#[115, 116, 121, 108, 101]⟩ : ByteArray), (⟨#[120, 109, 112]⟩ : ByteArray)] : List ByteArray))).bind fun t382 => (some t382)) = some r := h
 clear h
 obtain ⟨y379, hy379⟩ : ∃ y_ : List ByteArray, y_ = (([(⟨#[105, 102, 114, 97, 109, 101]⟩ : ByteArray), (⟨#[110, 111, 101, 109, 98, 101, 100]⟩ : ByteArray), (⟨#[110, 111, 102, 114, 97, 109, 101, 115]⟩ : ByteArray), (⟨#[115, 99, 114, 105, 112, 116]⟩ : ByteArray), (⟨#[115, 116, 121, 108, 101]⟩ : ByteArray), (⟨#[120, 109, 112]⟩ : ByteArray)] : List ByteArray)) := ⟨_, rfl⟩
 replace H : ((names_among.f k a0 y379).bind fun t382 => (some t382)) = some r := by first | (rw [hy379]; with_reducible exact H) | (have H2_ := (Option.bind_some _ _).symm.trans H; rw [hy379]; with_reducible exact H2_) | (have H2_ := (Option.bind_some _ _).symm.trans H; with_reducible exact H2_) | with_reducible exact H | (rw [hy379]; exact H) | exact H
 have Ny379 := Aside0.mk hy379
 clear hy379
 replace H := Option.bind_eq_some_iff.mp H
 obtain ⟨t382, A20, H⟩ := H
 have A2 := Aside0.mk A20
 clear A20
 obtain rfl := Option.some.inj H
 go_enter Tryd.func40, Tryd.ntmps40
 go_wp2_with (first | ((with_reducible refine gate_dst (N := 4) rfl ?_); refine Kd.R_lit Kd.string _ 9 ?hg (N := 4) ?hd (xs := ([(⟨#[105, 102, 114, 97, 109, 101]⟩ : ByteArray), (⟨#[110, 111, 101, 109, 98, 101, 100]⟩ : ByteArray), (⟨#[110, 111, 102, 114, 97, 109, 101, 115]⟩ : ByteArray), (⟨#[115, 99, 114, 105, 112, 116]⟩ : ByteArray), (⟨#[115, 116, 121, 108, 101]⟩ : ByteArray), (⟨#[120, 109, 112]⟩ : ByteArray)] : List ByteArray)) (inner := [.string (⟨#[105, 102, 114, 97, 109, 101]⟩ : ByteArray), .string (⟨#[110, 111, 101, 109, 98, 101, 100]⟩ : ByteArray), .string (⟨#[110, 111, 102, 114, 97, 109, 101, 115]⟩ : ByteArray), .string (⟨#[115, 99, 114, 105, 112, 116]⟩ : ByteArray), .string (⟨#[115, 116, 121, 108, 101]⟩ : ByteArray), .string (⟨#[120, 109, 112]⟩ : ByteArray)]) (ok := fun _ => True) (okp := fun _ => True) ?hr ?hp (fun _ hk => hk) trivial (Below.refl _ _) (Nat.le_refl _) (by simp) ?_; (case hd => rfl); (case hg => rfl); (case hr => first | (go_simp; done) | (go_simp; rfl)); (case hp => exact (Reps.one (show Kd.M Kd.string _ _ _ (⟨#[105, 102, 114, 97, 109, 101]⟩ : ByteArray) [.string (⟨#[105, 102, 114, 97, 109, 101]⟩ : ByteArray)] from rfl) (Reps.one (show Kd.M Kd.string _ _ _ (⟨#[110, 111, 101, 109, 98, 101, 100]⟩ : ByteArray) [.string (⟨#[110, 111, 101, 109, 98, 101, 100]⟩ : ByteArray)] from rfl) (Reps.one (show Kd.M Kd.string _ _ _ (⟨#[110, 111, 102, 114, 97, 109, 101, 115]⟩ : ByteArray) [.string (⟨#[110, 111, 102, 114, 97, 109, 101, 115]⟩ : ByteArray)] from rfl) (Reps.one (show Kd.M Kd.string _ _ _ (⟨#[115, 99, 114, 105, 112, 116]⟩ : ByteArray) [.string (⟨#[115, 99, 114, 105, 112, 116]⟩ : ByteArray)] from rfl) (Reps.one (show Kd.M Kd.string _ _ _ (⟨#[115, 116, 121, 108, 101]⟩ : ByteArray) [.string (⟨#[115, 116, 121, 108, 101]⟩ : ByteArray)] from rfl) (Reps.one (show Kd.M Kd.string _ _ _ (⟨#[120, 109, 112]⟩ : ByteArray) [.string (⟨#[120, 109, 112]⟩ : ByteArray)] from rfl) (Reps.none _ _)))))))); intro v380 w3 ho4 hb hg_ hnew_; clear hg_ hnew_; (first | rw [← Ny379.out] at ho4 | (simp only [Int.reduceToNat] at ho4; rw [← Ny379.out] at ho4)); have n0_ := Aside0.mk (Kd.R_lower ho4 (below_size y14_)); have n1_ := Aside0.mk (below_step y14_ hb); clear HB; have HO381 := n0_; have HB := n1_; clear n0_ n1_; clear hb ho4; obtain ⟨Ao5, co5, eo5⟩ := Kd.R_slice HO381.out; subst eo5) | ((with_reducible refine gate_callee (f := 42) rfl ?_); refine goesL_ (some 5) rfl rfl Tryd.func42 (by kernel_rfl) rfl #[.string a0, .slice Ao5 y379.length co5] rfl y15_ ?_; (with_reducible refine (names_among.calls k a0 _ _ y379 t382 _ ?side1 ?side2 A2.out).mono ?_); (case side1 => repeat (first | exact (Kd.R_reads' HO381.out).2.2 | (with_reducible refine Kd.C_alloc ?_ _) | (with_reducible refine Kd.C_drewN ?_ _) | (with_reducible refine Kd.C_drew ?_))); (case side2 => exact (Kd.R_reads' HO381.out).2.1); rintro e w' ⟨rfl, ⟨nd, rfl⟩⟩; refine ⟨_, rfl, ?_⟩))
 go_ret
 exact ⟨y13_, y14_⟩
end Go.Proofs.YtpnhjipaeggcpaaDoor.X
end
section
namespace Go.Proofs.YtpnhjipaeggcpaaDoor.X
open Go.RowKit Go.Proofs.YtpnhjipaeggcpaaDoorW.PrintWords Go.Proofs.YtpnhjipaeggcpaaDoorW.PrintLast Go.Proofs.YtpnhjipaeggcpaaDoorW.PrintMore
attribute [local go_sem] max2_int min2_int max_two min_two max_three min_three max_four min_four
def names_Void.f (k : Nat) (a0 : ByteArray) : Option (Bool) := (names_among.f k a0 (([(⟨#[97, 114, 101, 97]⟩ : ByteArray), (⟨#[98, 97, 115, 101]⟩ : ByteArray), (⟨#[98, 114]⟩ : ByteArray), (⟨#[99, 111, 108]⟩ : ByteArray), (⟨#[101, 109, 98, 101, 100]⟩ : ByteArray), (⟨#[104, 114]⟩ : ByteArray), (⟨#[105, 109, 103]⟩ : ByteArray), (⟨#[105, 110, 112, 117, 116]⟩ : ByteArray), (⟨#[108, 105, 110, 107]⟩ : ByteArray), (⟨#[109, 101, 116, 97]⟩ : ByteArray), (⟨#[112, 97, 114, 97, 109]⟩ : ByteArray), (⟨#[115, 111, 117, 114, 99, 101]⟩ : ByteArray), (⟨#[116, 114, 97, 99, 107]⟩ : ByteArray), (⟨#[119, 98, 114]⟩ : ByteArray)] : List ByteArray))).bind fun t189 => (some t189)
set_option maxHeartbeats 8000000 in
set_option maxRecDepth 100000 in
theorem names_Void.calls (k : Nat) (a0 : ByteArray) (r : Bool) (w : World) (h : names_Void.f k a0 = some r) :
  Calls Tryd.prog 26 #[.string a0] w fun e w' => e = .returned (.bool r) ∧ Below w.heap.size w w' := by
 have HB := Aside0.mk (Below.refl w.heap.size w)
 have H : ((names_among.f k a0 (([(⟨#[97, 114, 101, 97]⟩ : ByteArray), (⟨#[98, 97, 115, 101]⟩ : ByteArray), (⟨#[98, 114]⟩ : ByteArray), (⟨#[99, 111, 108]⟩ : ByteArray), (⟨#[101, 109, 98, 101, 100]⟩ : ByteArray), (⟨#[104, 114]⟩ : ByteArray), (⟨#[105, 109, 103]⟩ : ByteArray), (⟨#[105, 110, 112, 117, 116]⟩ : ByteArray), (⟨#[108, 105, 110, 107]⟩ : ByteArray), (⟨#[109, 101, 116, 97]⟩ : ByteArray), (⟨#[112, 97, 114, 97, 109]⟩ : ByteArray), (⟨#[115, 111, 117, 114, 99, 101]⟩ : ByteArray), (⟨#[116, 114, 97, 99, 107]⟩ : ByteArray), (⟨#[119, 98, 114]⟩ : ByteArray)] : List ByteArray))).bind fun t189 => (some t189)) = some r := h
 clear h
 obtain ⟨y186, hy186⟩ : ∃ y_ : List ByteArray, y_ = (([(⟨#[97, 114, 101, 97]⟩ : ByteArray), (⟨#[98, 97, 115, 101]⟩ : ByteArray), (⟨#[98, 114]⟩ : ByteArray), (⟨#[99, 111, 108]⟩ : ByteArray), (⟨#[101, 109, 98, 101, 100]⟩ : ByteArray), (⟨#[104, 114]⟩ : ByteArray), (⟨#[105, 109, 103]⟩ : ByteArray), (⟨#[105, 110, 112, 117, 116]⟩ : ByteArray), (⟨#[108, 105, 110, 107]⟩ : ByteArray), (⟨#[109, 101, 116, 97]⟩ : ByteArray), (⟨#[112, 97, 114, 97, 109]⟩ : ByteArray), (⟨#[115, 111, 117, 114, 99, 101]⟩ : ByteArray), (⟨#[116, 114, 97, 99, 107]⟩ : ByteArray), (⟨#[119, 98, 114]⟩ : ByteArray)] : List ByteArray)) := ⟨_, rfl⟩
 replace H : ((names_among.f k a0 y186).bind fun t189 => (some t189)) = some r := by first | (rw [hy186]; with_reducible exact H) | (have H2_ := (Option.bind_some _ _).symm.trans H; rw [hy186]; with_reducible exact H2_) | (have H2_ := (Option.bind_some _ _).symm.trans H; with_reducible exact H2_) | with_reducible exact H | (rw [hy186]; exact H) | exact H
 have Ny186 := Aside0.mk hy186
 clear hy186
 replace H := Option.bind_eq_some_iff.mp H
 obtain ⟨t189, A20, H⟩ := H
 have A2 := Aside0.mk A20
 clear A20
 obtain rfl := Option.some.inj H
 go_enter Tryd.func26, Tryd.ntmps26
 go_wp2_with (first | ((with_reducible refine gate_dst (N := 4) rfl ?_); refine Kd.R_lit Kd.string _ 9 ?hg (N := 4) ?hd (xs := ([(⟨#[97, 114, 101, 97]⟩ : ByteArray), (⟨#[98, 97, 115, 101]⟩ : ByteArray), (⟨#[98, 114]⟩ : ByteArray), (⟨#[99, 111, 108]⟩ : ByteArray), (⟨#[101, 109, 98, 101, 100]⟩ : ByteArray), (⟨#[104, 114]⟩ : ByteArray), (⟨#[105, 109, 103]⟩ : ByteArray), (⟨#[105, 110, 112, 117, 116]⟩ : ByteArray), (⟨#[108, 105, 110, 107]⟩ : ByteArray), (⟨#[109, 101, 116, 97]⟩ : ByteArray), (⟨#[112, 97, 114, 97, 109]⟩ : ByteArray), (⟨#[115, 111, 117, 114, 99, 101]⟩ : ByteArray), (⟨#[116, 114, 97, 99, 107]⟩ : ByteArray), (⟨#[119, 98, 114]⟩ : ByteArray)] : List ByteArray)) (inner := [.string (⟨#[97, 114, 101, 97]⟩ : ByteArray), .string (⟨#[98, 97, 115, 101]⟩ : ByteArray), .string (⟨#[98, 114]⟩ : ByteArray), .string (⟨#[99, 111, 108]⟩ : ByteArray), .string (⟨#[101, 109, 98, 101, 100]⟩ : ByteArray), .string (⟨#[104, 114]⟩ : ByteArray), .string (⟨#[105, 109, 103]⟩ : ByteArray), .string (⟨#[105, 110, 112, 117, 116]⟩ : ByteArray), .string (⟨#[108, 105, 110, 107]⟩ : ByteArray), .string (⟨#[109, 101, 116, 97]⟩ : ByteArray), .string (⟨#[112, 97, 114, 97, 109]⟩ : ByteArray), .string (⟨#[115, 111, 117, 114, 99, 101]⟩ : ByteArray), .string (⟨#[116, 114, 97, 99, 107]⟩ : ByteArray), .string (⟨#[119, 98, 114]⟩ : ByteArray)]) (ok := fun _ => True) (okp := fun _ => True) ?hr ?hp (fun _ hk => hk) trivial (Below.refl _ _) (Nat.le_refl _) (by simp) ?_; (case hd => rfl); (case hg => rfl); (case hr => first | (go_simp; done) | (go_simp; rfl)); (case hp => exact (Reps.one (show Kd.M Kd.string _ _ _ (⟨#[97, 114, 101, 97]⟩ : ByteArray) [.string (⟨#[97, 114, 101, 97]⟩ : ByteArray)] from rfl) (Reps.one (show Kd.M Kd.string _ _ _ (⟨#[98, 97, 115, 101]⟩ : ByteArray) [.string (⟨#[98, 97, 115, 101]⟩ : ByteArray)] from rfl) (Reps.one (show Kd.M Kd.string _ _ _ (⟨#[98, 114]⟩ : ByteArray) [.string (⟨#[98, 114]⟩ : ByteArray)] from rfl) (Reps.one (show Kd.M Kd.string _ _ _ (⟨#[99, 111, 108]⟩ : ByteArray) [.string (⟨#[99, 111, 108]⟩ : ByteArray)] from rfl) (Reps.one (show Kd.M Kd.string _ _ _ (⟨#[101, 109, 98, 101, 100]⟩ : ByteArray) [.string (⟨#[101, 109, 98, 101, 100]⟩ : ByteArray)] from rfl) (Reps.one (show Kd.M Kd.string _ _ _ (⟨#[104, 114]⟩ : ByteArray) [.string (⟨#[104, 114]⟩ : ByteArray)] from rfl) (Reps.one (show Kd.M Kd.string _ _ _ (⟨#[105, 109, 103]⟩ : ByteArray) [.string (⟨#[105, 109, 103]⟩ : ByteArray)] from rfl) (Reps.one (show Kd.M Kd.string _ _ _ (⟨#[105, 110, 112, 117, 116]⟩ : ByteArray) [.string (⟨#[105, 110, 112, 117, 116]⟩ : ByteArray)] from rfl) (Reps.one (show Kd.M Kd.string _ _ _ (⟨#[108, 105, 110, 107]⟩ : ByteArray) [.string (⟨#[108, 105, 110, 107]⟩ : ByteArray)] from rfl) (Reps.one (show Kd.M Kd.string _ _ _ (⟨#[109, 101, 116, 97]⟩ : ByteArray) [.string (⟨#[109, 101, 116, 97]⟩ : ByteArray)] from rfl) (Reps.one (show Kd.M Kd.string _ _ _ (⟨#[112, 97, 114, 97, 109]⟩ : ByteArray) [.string (⟨#[112, 97, 114, 97, 109]⟩ : ByteArray)] from rfl) (Reps.one (show Kd.M Kd.string _ _ _ (⟨#[115, 111, 117, 114, 99, 101]⟩ : ByteArray) [.string (⟨#[115, 111, 117, 114, 99, 101]⟩ : ByteArray)] from rfl) (Reps.one (show Kd.M Kd.string _ _ _ (⟨#[116, 114, 97, 99, 107]⟩ : ByteArray) [.string (⟨#[116, 114, 97, 99, 107]⟩ : ByteArray)] from rfl) (Reps.one (show Kd.M Kd.string _ _ _ (⟨#[119, 98, 114]⟩ : ByteArray) [.string (⟨#[119, 98, 114]⟩ : ByteArray)] from rfl) (Reps.none _ _)))))))))))))))); intro v187 w3 ho4 hb hg_ hnew_; clear hg_ hnew_; (first | rw [← Ny186.out] at ho4 | (simp only [Int.reduceToNat] at ho4; rw [← Ny186.out] at ho4)); have n0_ := Aside0.mk (Kd.R_lower ho4 (below_size y14_)); have n1_ := Aside0.mk (below_step y14_ hb); clear HB; have HO188 := n0_; have HB := n1_; clear n0_ n1_; clear hb ho4; obtain ⟨Ao5, co5, eo5⟩ := Kd.R_slice HO188.out; subst eo5) | ((with_reducible refine gate_callee (f := 42) rfl ?_); refine goesL_ (some 5) rfl rfl Tryd.func42 (by kernel_rfl) rfl #[.string a0, .slice Ao5 y186.length co5] rfl y15_ ?_; (with_reducible refine (names_among.calls k a0 _ _ y186 t189 _ ?side1 ?side2 A2.out).mono ?_); (case side1 => repeat (first | exact (Kd.R_reads' HO188.out).2.2 | (with_reducible refine Kd.C_alloc ?_ _) | (with_reducible refine Kd.C_drewN ?_ _) | (with_reducible refine Kd.C_drew ?_))); (case side2 => exact (Kd.R_reads' HO188.out).2.1); rintro e w' ⟨rfl, ⟨nd, rfl⟩⟩; refine ⟨_, rfl, ?_⟩))
 go_ret
 exact ⟨y13_, y14_⟩
end Go.Proofs.YtpnhjipaeggcpaaDoor.X
end
section
namespace Go.Proofs.YtpnhjipaeggcpaaDoor.X
open Go.RowKit Go.Proofs.YtpnhjipaeggcpaaDoorW.PrintWords Go.Proofs.YtpnhjipaeggcpaaDoorW.PrintLast Go.Proofs.YtpnhjipaeggcpaaDoorW.PrintMore
attribute [local go_sem] max2_int min2_int max_two min_two max_three min_three max_four min_four
end Go.Proofs.YtpnhjipaeggcpaaDoor.X
end
section
namespace Go.Proofs.YtpnhjipaeggcpaaDoor.X
open Go.RowKit Go.Proofs.YtpnhjipaeggcpaaDoorW.PrintWords Go.Proofs.YtpnhjipaeggcpaaDoorW.PrintLast Go.Proofs.YtpnhjipaeggcpaaDoorW.PrintMore
attribute [local go_sem] max2_int min2_int max_two min_two max_three min_three max_four min_four
def boltingref03_Write.l0 : Nat → ByteArray → Bool → List Int → Int → Option (ByteArray)
 | 0, _, _, _, _ => none
 | k + 1, x0, x1, x5, x6 => if x6 < (x0.size : Int) then (if 0 ≤ x6 then (if x6 ≤ (wrap64 (x6 + 1)) then (if (wrap64 (x6 + 1)) ≤ (x0.size : Int) then (if (bt x0 x6) = 38 then (if x5.length + 5 < 140737488355328 then (boltingref03_Write.l0 k x0 x1 (x5 ++ bytesOf (⟨#[38, 97, 109, 112, 59]⟩ : ByteArray)) (wrap64 (x6 + 1))) else (none)) else (if (bt x0 x6) = 60 then (if x5.length + 4 < 140737488355328 then (boltingref03_Write.l0 k x0 x1 (x5 ++ bytesOf (⟨#[38, 108, 116, 59]⟩ : ByteArray)) (wrap64 (x6 + 1))) else (none)) else (if (bt x0 x6) = 62 then (if x5.length + 4 < 140737488355328 then (boltingref03_Write.l0 k x0 x1 (x5 ++ bytesOf (⟨#[38, 103, 116, 59]⟩ : ByteArray)) (wrap64 (x6 + 1))) else (none)) else (if (bt x0 x6) = 34 then (if x1 = true then (if x5.length + 6 < 140737488355328 then (boltingref03_Write.l0 k x0 x1 (x5 ++ bytesOf (⟨#[38, 113, 117, 111, 116, 59]⟩ : ByteArray)) (wrap64 (x6 + 1))) else (none)) else (if x5.length + (x0.extract (x6 : Int).toNat ((wrap64 (x6 + 1)) : Int).toNat).size < 140737488355328 then (boltingref03_Write.l0 k x0 x1 (x5 ++ bytesOf (x0.extract (x6 : Int).toNat ((wrap64 (x6 + 1)) : Int).toNat)) (wrap64 (x6 + 1))) else (none))) else (if (bt x0 x6) = 194 then (if (wrap64 (x6 + 1)) < (x0.size : Int) then (if 0 ≤ (wrap64 (x6 + 1)) then (if (bt x0 (wrap64 (x6 + 1))) = 160 then (if x5.length + 6 < 140737488355328 then (boltingref03_Write.l0 k x0 x1 (x5 ++ bytesOf (⟨#[38, 110, 98, 115, 112, 59]⟩ : ByteArray)) (wrap64 ((wrap64 (x6 + 1)) + 1))) else (none)) else (if x5.length + (x0.extract (x6 : Int).toNat ((wrap64 (x6 + 1)) : Int).toNat).size < 140737488355328 then (boltingref03_Write.l0 k x0 x1 (x5 ++ bytesOf (x0.extract (x6 : Int).toNat ((wrap64 (x6 + 1)) : Int).toNat)) (wrap64 (x6 + 1))) else (none))) else (none)) else (if x5.length + (x0.extract (x6 : Int).toNat ((wrap64 (x6 + 1)) : Int).toNat).size < 140737488355328 then (boltingref03_Write.l0 k x0 x1 (x5 ++ bytesOf (x0.extract (x6 : Int).toNat ((wrap64 (x6 + 1)) : Int).toNat)) (wrap64 (x6 + 1))) else (none))) else (if x5.length + (x0.extract (x6 : Int).toNat ((wrap64 (x6 + 1)) : Int).toNat).size < 140737488355328 then (boltingref03_Write.l0 k x0 x1 (x5 ++ bytesOf (x0.extract (x6 : Int).toNat ((wrap64 (x6 + 1)) : Int).toNat)) (wrap64 (x6 + 1))) else (none))))))) else (none)) else (none)) else (none)) else (some (strOfNums x5))
def boltingref03_Write.f (k : Nat) (a0 : ByteArray) (a1 : Bool) : Option (ByteArray) := boltingref03_Write.l0 k a0 a1 (([] : List Int)) 0
end Go.Proofs.YtpnhjipaeggcpaaDoor.X
end
section
namespace Go.Proofs.YtpnhjipaeggcpaaDoor.X
open Go.RowKit Go.Proofs.YtpnhjipaeggcpaaDoorW.PrintWords Go.Proofs.YtpnhjipaeggcpaaDoorW.PrintLast Go.Proofs.YtpnhjipaeggcpaaDoorW.PrintMore
attribute [local go_sem] max2_int min2_int max_two min_two max_three min_three max_four min_four
def boltingref08_tag.l0 : Nat → ByteArray → Int → Int → Int → ByteArray → ByteArray → List (S41) → Option (ByteArray)
 | 0, _, _, _, _, _, _, _ => none
 | k + 1, x3, x4, x162000, x162001, x162002, x162003, x162004 => if x4 < (x162004.length : Int) then (if 0 ≤ x4 then (if 1 + ((rd_T41 x162004 x4).f0).size ≤ 9223372036854775807 then (if ((⟨#[32]⟩ : ByteArray) ++ ((rd_T41 x162004 x4).f0)).size + 2 ≤ 9223372036854775807 then ((boltingref03_Write.f k ((rd_T41 x162004 x4).f1) true).bind fun t164 => (if (((⟨#[32]⟩ : ByteArray) ++ ((rd_T41 x162004 x4).f0)) ++ (⟨#[61, 34]⟩ : ByteArray)).size + t164.size ≤ 9223372036854775807 then (if ((((⟨#[32]⟩ : ByteArray) ++ ((rd_T41 x162004 x4).f0)) ++ (⟨#[61, 34]⟩ : ByteArray)) ++ t164).size + 1 ≤ 9223372036854775807 then (if x3.size + (((((⟨#[32]⟩ : ByteArray) ++ ((rd_T41 x162004 x4).f0)) ++ (⟨#[61, 34]⟩ : ByteArray)) ++ t164) ++ (⟨#[34]⟩ : ByteArray)).size ≤ 9223372036854775807 then (boltingref08_tag.l0 k (x3 ++ (((((⟨#[32]⟩ : ByteArray) ++ ((rd_T41 x162004 x4).f0)) ++ (⟨#[61, 34]⟩ : ByteArray)) ++ t164) ++ (⟨#[34]⟩ : ByteArray))) (wrap64 (x4 + 1)) x162000 x162001 x162002 x162003 x162004) else (none)) else (none)) else (none))) else (none)) else (none)) else (none)) else (if x3.size + 1 ≤ 9223372036854775807 then (some (x3 ++ (⟨#[62]⟩ : ByteArray))) else (none))
def boltingref08_tag.f (k : Nat) (a0_0 : Int) (a0_1 : Int) (a0_2 : ByteArray) (a0_3 : ByteArray) (l0_4 : List (S41)) : Option (ByteArray) := if 1 + a0_2.size ≤ 9223372036854775807 then (boltingref08_tag.l0 k ((⟨#[60]⟩ : ByteArray) ++ a0_2) 0 a0_0 a0_1 a0_2 a0_3 l0_4) else (none)
def boltingref08_tag.T5 : Bool × List (List Nat × List Nat) := (true, [([], []), ([], []), ([1], [1]), ([], []), ([2, 3], [2, 3]), ([4], [4]), ([5], [5]), ([6], [6]), ([7], [7]), ([], []), ([9], [9]), ([], []), ([10, 11], [10, 11]), ([12], [12]), ([13], [13]), ([14], [14]), ([8, 15], [8, 15]), ([16], [16]), ([0, 17], [0, 17]), ([18, 15, 0, 1, 2, 3, 4, 5, 6, 7, 8, 9, 10, 11, 12, 13, 14, 15, 16, 17, 18], [0, 18])])
def boltingref08_tag.B5 : List Nat := [0, 0, 2, 0, 14, 30, 62, 126, 254, 0, 512, 0, 3584, 7680, 15872, 32256, 65534, 131070, 262143, 524287]
theorem boltingref08_tag.tab5 : rtab .any (opsOf Tryd.f25 5) = boltingref08_tag.T5 := by kernel_rfl
theorem boltingref08_tag.bits5 : waitsOk boltingref08_tag.T5.2 boltingref08_tag.B5 = true := by kernel_rfl
end Go.Proofs.YtpnhjipaeggcpaaDoor.X
end
section
namespace Go.Proofs.YtpnhjipaeggcpaaDoor.X
open Go.RowKit Go.Proofs.YtpnhjipaeggcpaaDoorW.PrintWords Go.Proofs.YtpnhjipaeggcpaaDoorW.PrintLast Go.Proofs.YtpnhjipaeggcpaaDoorW.PrintMore
attribute [local go_sem] max2_int min2_int max_two min_two max_three min_three max_four min_four
mutual
def boltingref04_Row.l0 : Nat → Int → Int → Int → ByteArray → ByteArray → List (S41) → Option (Bool)
 | 0, _, _, _, _, _, _ => none
 | k + 1, x3, x115000, x115001, x115002, x115003, x115004 => if x3 < (x115004.length : Int) then (boltingref04_Row.l1 k x3 0 x115000 x115001 x115002 x115003 x115004) else (if x115001 = 0 then (if x115002.toList = ([] : List UInt8) then (some false) else (some (x115003.toList == ([] : List UInt8)))) else (some false))
def boltingref04_Row.l1 : Nat → Int → Int → Int → Int → ByteArray → ByteArray → List (S41) → Option (Bool)
 | 0, _, _, _, _, _, _, _ => none
 | k + 1, x3, x4, x115000, x115001, x115002, x115003, x115004 => if x4 < x3 then (if 0 ≤ x3 then (if x3 < (x115004.length : Int) then (if 0 ≤ x4 then (if x4 < (x115004.length : Int) then (if ((rd_T41 x115004 x3).f0).toList = ((rd_T41 x115004 x4).f0).toList then (some false) else (boltingref04_Row.l1 k x3 (wrap64 (x4 + 1)) x115000 x115001 x115002 x115003 x115004)) else (none)) else (none)) else (none)) else (none)) else (boltingref04_Row.l0 k (wrap64 (x3 + 1)) x115000 x115001 x115002 x115003 x115004)
end
end Go.Proofs.YtpnhjipaeggcpaaDoor.X
end
section
namespace Go.Proofs.YtpnhjipaeggcpaaDoor.X
open Go.RowKit Go.Proofs.YtpnhjipaeggcpaaDoorW.PrintWords Go.Proofs.YtpnhjipaeggcpaaDoorW.PrintLast Go.Proofs.YtpnhjipaeggcpaaDoorW.PrintMore
attribute [local go_sem] max2_int min2_int max_two min_two max_three min_three max_four min_four
end Go.Proofs.YtpnhjipaeggcpaaDoor.X
end
section
namespace Go.Proofs.YtpnhjipaeggcpaaDoor.X
open Go.RowKit Go.Proofs.YtpnhjipaeggcpaaDoorW.PrintWords Go.Proofs.YtpnhjipaeggcpaaDoorW.PrintLast Go.Proofs.YtpnhjipaeggcpaaDoorW.PrintMore
attribute [local go_sem] max2_int min2_int max_two min_two max_three min_three max_four min_four
end Go.Proofs.YtpnhjipaeggcpaaDoor.X
end
section
namespace Go.Proofs.YtpnhjipaeggcpaaDoor.X
open Go.RowKit Go.Proofs.YtpnhjipaeggcpaaDoorW.PrintWords Go.Proofs.YtpnhjipaeggcpaaDoorW.PrintLast Go.Proofs.YtpnhjipaeggcpaaDoorW.PrintMore
def rkOk (l : List S35) (i : Int) (k : Nat) : Bool := if i = -1 then (rd_T35 l (k : Int)).f0 == 0 else decide ((k : Int) > i) && (decide ((k : Int) < rEnd l i) && ((rd_T35 l (k : Int)).f0 == wrap64 ((rd_T35 l i).f0 + 1)))
def rkTo (l : List S35) (i : Int) (n : Nat) : List Int := ((List.range n).filter (rkOk l i)).map fun (k : Nat) => (k : Int)
end Go.Proofs.YtpnhjipaeggcpaaDoor.X
end
section
namespace Go.Proofs.YtpnhjipaeggcpaaDoor.X
open Go.RowKit Go.Proofs.YtpnhjipaeggcpaaDoorW.PrintWords Go.Proofs.YtpnhjipaeggcpaaDoorW.PrintLast Go.Proofs.YtpnhjipaeggcpaaDoorW.PrintMore
attribute [local go_sem] max2_int min2_int max_two min_two max_three min_three max_four min_four
def boltingref05_Void.f  : Option (List ByteArray) := some (([(⟨#[97, 114, 101, 97]⟩ : ByteArray), (⟨#[98, 97, 115, 101]⟩ : ByteArray), (⟨#[98, 114]⟩ : ByteArray), (⟨#[99, 111, 108]⟩ : ByteArray), (⟨#[101, 109, 98, 101, 100]⟩ : ByteArray), (⟨#[104, 114]⟩ : ByteArray), (⟨#[105, 109, 103]⟩ : ByteArray), (⟨#[105, 110, 112, 117, 116]⟩ : ByteArray), (⟨#[108, 105, 110, 107]⟩ : ByteArray), (⟨#[109, 101, 116, 97]⟩ : ByteArray), (⟨#[112, 97, 114, 97, 109]⟩ : ByteArray), (⟨#[115, 111, 117, 114, 99, 101]⟩ : ByteArray), (⟨#[116, 114, 97, 99, 107]⟩ : ByteArray), (⟨#[119, 98, 114]⟩ : ByteArray)] : List ByteArray))
end Go.Proofs.YtpnhjipaeggcpaaDoor.X
end
section
namespace Go.Proofs.YtpnhjipaeggcpaaDoor.X
open Go.RowKit Go.Proofs.YtpnhjipaeggcpaaDoorW.PrintWords Go.Proofs.YtpnhjipaeggcpaaDoorW.PrintLast Go.Proofs.YtpnhjipaeggcpaaDoorW.PrintMore
attribute [local go_sem] max2_int min2_int max_two min_two max_three min_three max_four min_four
def boltingref05_Raw.f  : Option (List ByteArray) := some (([(⟨#[105, 102, 114, 97, 109, 101]⟩ : ByteArray), (⟨#[110, 111, 101, 109, 98, 101, 100]⟩ : ByteArray), (⟨#[110, 111, 102, 114, 97, 109, 101, 115]⟩ : ByteArray), (⟨#[115, 99, 114, 105, 112, 116]⟩ : ByteArray), (⟨#[115, 116, 121, 108, 101]⟩ : ByteArray), (⟨#[120, 109, 112]⟩ : ByteArray)] : List ByteArray))
end Go.Proofs.YtpnhjipaeggcpaaDoor.X
end
section
namespace Go.Proofs.YtpnhjipaeggcpaaDoor.X
open Go.RowKit Go.Proofs.YtpnhjipaeggcpaaDoorW.PrintWords Go.Proofs.YtpnhjipaeggcpaaDoorW.PrintLast Go.Proofs.YtpnhjipaeggcpaaDoorW.PrintMore
attribute [local go_sem] max2_int min2_int max_two min_two max_three min_three max_four min_four
def fold_Space.f (a0 : Int) : Option (Bool) := if a0 = 32 then (some true) else (if a0 = 9 then (some true) else (if a0 = 10 then (some true) else (if a0 = 12 then (some true) else (some (a0 == 13)))))
set_option maxHeartbeats 8000000 in
set_option maxRecDepth 100000 in
theorem fold_Space.calls (a0 : Int) (r : Bool) (w : World) (h : fold_Space.f a0 = some r) :
  Calls Tryd.prog 90 #[.int .u8 a0] w fun e w' => e = .returned (.bool r) ∧ Drawn0 w w' := by
 have H : (if a0 = 32 then (some true) else (if a0 = 9 then (some true) else (if a0 = 10 then (some true) else (if a0 = 12 then (some true) else (some (a0 == 13)))))) = some r := h
 clear h
 by_cases c2 : a0 = 32
 ·rw [if_pos c2] at H
  have c2b0 : (a0 == 32) = true := beq_iff_eq.mpr c2
  have c2b1 : (a0 != 32) = false := bne_eq_false_iff_eq.mpr c2
  clear c2
  obtain rfl := Option.some.inj H
  go_enter Tryd.func90, Tryd.ntmps90
  go_wp2
  go_ret
  exact ⟨y5_, y3_⟩
 ·rw [if_neg c2] at H
  have c2b0 : (a0 == 32) = false := beq_eq_false_iff_ne.mpr c2
  have c2b1 : (a0 != 32) = true := bne_iff_ne.mpr c2
  by_cases c3 : a0 = 9
  ·rw [if_pos c3] at H
   have c3b0 : (a0 == 9) = true := beq_iff_eq.mpr c3
   have c3b1 : (a0 != 9) = false := bne_eq_false_iff_eq.mpr c3
   clear c3
   obtain rfl := Option.some.inj H
   go_enter Tryd.func90, Tryd.ntmps90
   go_wp2
   go_ret
   exact ⟨y5_, y3_⟩
  ·rw [if_neg c3] at H
   have c3b0 : (a0 == 9) = false := beq_eq_false_iff_ne.mpr c3
   have c3b1 : (a0 != 9) = true := bne_iff_ne.mpr c3
   by_cases c4 : a0 = 10
   ·rw [if_pos c4] at H
    have c4b0 : (a0 == 10) = true := beq_iff_eq.mpr c4
    have c4b1 : (a0 != 10) = false := bne_eq_false_iff_eq.mpr c4
    clear c4
    obtain rfl := Option.some.inj H
    go_enter Tryd.func90, Tryd.ntmps90
    go_wp2
    go_ret
    exact ⟨y5_, y3_⟩
   ·rw [if_neg c4] at H
    have c4b0 : (a0 == 10) = false := beq_eq_false_iff_ne.mpr c4
    have c4b1 : (a0 != 10) = true := bne_iff_ne.mpr c4
    by_cases c5 : a0 = 12
    ·rw [if_pos c5] at H
     have c5b0 : (a0 == 12) = true := beq_iff_eq.mpr c5
     have c5b1 : (a0 != 12) = false := bne_eq_false_iff_eq.mpr c5
     clear c5
     obtain rfl := Option.some.inj H
     go_enter Tryd.func90, Tryd.ntmps90
     go_wp2
     go_ret
     exact ⟨y5_, y3_⟩
    ·rw [if_neg c5] at H
     have c5b0 : (a0 == 12) = false := beq_eq_false_iff_ne.mpr c5
     have c5b1 : (a0 != 12) = true := bne_iff_ne.mpr c5
     obtain rfl := Option.some.inj H
     go_enter Tryd.func90, Tryd.ntmps90
     go_wp2
     go_ret
     exact ⟨y5_, y3_⟩
end Go.Proofs.YtpnhjipaeggcpaaDoor.X
end
section
namespace Go.Proofs.YtpnhjipaeggcpaaDoor.X
open Go.RowKit Go.Proofs.YtpnhjipaeggcpaaDoorW.PrintWords Go.Proofs.YtpnhjipaeggcpaaDoorW.PrintLast Go.Proofs.YtpnhjipaeggcpaaDoorW.PrintMore
attribute [local go_sem] max2_int min2_int max_two min_two max_three min_three max_four min_four
mutual
def names_plain.l0 : Nat → ByteArray → ByteArray → Int → Int → Option (Bool)
 | 0, _, _, _, _ => none
 | k + 1, x0, x1, x8, x9 => if x9 < x8 then (if 0 ≤ x9 then (if x9 < (x0.size : Int) then ((fold_Space.f (bt x0 x9)).bind fun t278 => (if t278 = true then (names_plain.j1 k x0 x1 x9 x8 x9 true) else (if (bt x0 x9) ≥ 65 then (if (bt x0 x9) ≤ 90 then (names_plain.j1 k x0 x1 x9 x8 x9 true) else (names_plain.j1 k x0 x1 x9 x8 x9 ((bt x0 x9) == 0))) else (names_plain.j1 k x0 x1 x9 x8 x9 ((bt x0 x9) == 0))))) else (none)) else (none)) else (some (x0.toList != ([] : List UInt8)))
def names_plain.j1 : Nat → ByteArray → ByteArray → Int → Int → Int → Bool → Option (Bool)
 | 0, _, _, _, _, _, _ => none
 | k + 1, x0, x1, x5, x8, x9, x33 => if x33 = true then (some false) else (names_plain.l1 k x0 x1 x5 x8 x9 (x1.size : Int) 0)
def names_plain.l1 : Nat → ByteArray → ByteArray → Int → Int → Int → Int → Int → Option (Bool)
 | 0, _, _, _, _, _, _, _ => none
 | k + 1, x0, x1, x5, x8, x9, x35, x36 => if x36 < x35 then (if 0 ≤ x5 then (if x5 < (x0.size : Int) then (if 0 ≤ x36 then (if x36 < (x1.size : Int) then (if (bt x0 x5) = (bt x1 x36) then (some false) else (names_plain.l1 k x0 x1 x5 x8 x9 x35 (wrap64 (x36 + 1)))) else (none)) else (none)) else (none)) else (none)) else (names_plain.l0 k x0 x1 x8 (wrap64 (x9 + 1)))
end
def names_plain.f (k : Nat) (a0 : ByteArray) (a1 : ByteArray) : Option (Bool) := names_plain.l0 k a0 a1 (a0.size : Int) 0
set_option maxHeartbeats 8000000 in
set_option maxRecDepth 100000 in
theorem names_plain.calls (k : Nat) (a0 : ByteArray) (a1 : ByteArray) (r : Bool) (w : World) (h : names_plain.f k a0 a1 = some r) :
  Calls Tryd.prog 72 #[.string a0, .string a1] w fun e w' => e = .returned (.bool r) ∧ Drawn0 w w' := by
 have H : (names_plain.l0 k a0 a1 (a0.size : Int) 0) = some r := h
 clear h
 have H' := Aside0.mk H
 clear H
 go_enter Tryd.func72, Tryd.ntmps72
 go_wp2
 repeat (go_quiet (fail); try go_wp2)
 go_loopg [9] k (fun kq v9 w' => ∃ (x9_1 : Int), v9 = .int .i64 x9_1 ∧ Aside0 (names_plain.l0 kq a0 a1 (a0.size : Int) x9_1 = some r) ∧ Aside0 (kq ≤ k) ∧ Drawn0 w w')
 case atStart => exact ⟨(0), y5_, H', ⟨Nat.le_refl _⟩, y3_⟩
 case round =>
  clear H'
  try clear p2
  obtain ⟨x9_1, rfl, HA, HK1, ⟨m1, rfl⟩⟩ := hrel
  cases gk with
  | zero => exact absurd HA.out (by simp [names_plain.l0])
  | succ k1 =>
   have H := HA.out
   clear HA
   simp only [names_plain.l0] at H
   by_cases c3 : x9_1 < (a0.size : Int)
   ·rw [if_pos c3] at H
    have c3b0 : decide (x9_1 < (a0.size : Int)) = true := decide_eq_true c3
    clear c3
    have HC4 := Aside0.mk H
    clear H
    go_upto_region 4 with (fail)
    repeat (go_quiet (fail); go_upto_region 4 with (fail))
    go_cut [33] (fun v33 wc => ∃ (kq : Nat) (x33_3 : Bool), v33 = .bool x33_3 ∧ Aside0 (names_plain.j1 kq a0 a1 x9_1 (a0.size : Int) x9_1 x33_3 = some r) ∧ Aside0 (kq ≤ k1) ∧ Drawn0 w wc)
    case first =>
     have H := HC4.out
     clear HC4
     by_cases c5 : 0 ≤ x9_1
     rotate_left
     ·rw [if_neg c5] at H
      exact absurd H (by simp)
     rw [if_pos c5] at H
     have c5b0 : decide (0 ≤ x9_1) = true := decide_eq_true c5
     clear c5
     (first | rw [c5b0] | (simp only [i64_w, i32_w]; rw [c5b0]) | skip)
     by_cases c6 : x9_1 < (a0.size : Int)
     rotate_left
     ·rw [if_neg c6] at H
      exact absurd H (by simp)
     rw [if_pos c6] at H
     have c6b0 : decide (x9_1 < (a0.size : Int)) = true := decide_eq_true c6
     clear c6
     replace H := Option.bind_eq_some_iff.mp H
     obtain ⟨t278, A80, H⟩ := H
     have A8 := Aside0.mk A80
     clear A80
     by_cases c9 : t278 = true
     ·subst c9
      rw [if_pos rfl] at H
      have H' := Aside0.mk H
      clear H
      have p7 : 0 ≤ (x9_1 : Int) := of_decide_eq_true y2_
      have q7 : x9_1 < (a0.size : Int) := of_decide_eq_true y2_
      have hx7 := bt_at a0 x9_1
      replace p7 := eq_true p7
      replace q7 := eq_true q7
      go_wp2_with (first | (go_at_call 90; (with_reducible refine (fold_Space.calls (bt a0 x9_1) true _ A8.out).mono ?_); rintro e w' ⟨rfl, ⟨nd, rfl⟩⟩; (try first | exact ⟨rfl, _, World.drewN_drewN _ _ _⟩ | exact ⟨rfl, _, Eq.trans (World.drewN_drewN _ _ _) (congrArg (World.drewN _) (Nat.add_assoc _ _ _))⟩)))
      repeat (go_quiet (first | (go_at_call 90; (with_reducible refine (fold_Space.calls (bt a0 x9_1) true _ A8.out).mono ?_); rintro e w' ⟨rfl, ⟨nd, rfl⟩⟩; (try first | exact ⟨rfl, _, World.drewN_drewN _ _ _⟩ | exact ⟨rfl, _, Eq.trans (World.drewN_drewN _ _ _) (congrArg (World.drewN _) (Nat.add_assoc _ _ _))⟩))); try go_wp2_with (first | (go_at_call 90; (with_reducible refine (fold_Space.calls (bt a0 x9_1) true _ A8.out).mono ?_); rintro e w' ⟨rfl, ⟨nd, rfl⟩⟩; (try first | exact ⟨rfl, _, World.drewN_drewN _ _ _⟩ | exact ⟨rfl, _, Eq.trans (World.drewN_drewN _ _ _) (congrArg (World.drewN _) (Nat.add_assoc _ _ _))⟩))))
      go_meet
      case rel => exact ⟨_, (true), y5_, H', ⟨by have := HK1.out; first | omega | exact Nat.le_refl _⟩, y3_⟩
     ·replace c9 := Bool.eq_false_iff.mpr c9
      subst c9
      rw [if_neg (show ¬ (false = true) by decide)] at H
      by_cases c11 : (bt a0 x9_1) ≥ 65
      ·rw [if_pos c11] at H
       have c11b0 : decide (65 ≤ (bt a0 x9_1)) = true := decide_eq_true c11
       clear c11
       by_cases c13 : (bt a0 x9_1) ≤ 90
       ·rw [if_pos c13] at H
        have c13b0 : decide ((bt a0 x9_1) ≤ 90) = true := decide_eq_true c13
        clear c13
        have H' := Aside0.mk H
        clear H
        have p7 : 0 ≤ (x9_1 : Int) := of_decide_eq_true y2_
        have q7 : x9_1 < (a0.size : Int) := of_decide_eq_true y2_
        have hx7 := bt_at a0 x9_1
        replace p7 := eq_true p7
        replace q7 := eq_true q7
        go_wp2_with (first | (go_at_call 90; (with_reducible refine (fold_Space.calls (bt a0 x9_1) false _ A8.out).mono ?_); rintro e w' ⟨rfl, ⟨nd, rfl⟩⟩; (try first | exact ⟨rfl, _, World.drewN_drewN _ _ _⟩ | exact ⟨rfl, _, Eq.trans (World.drewN_drewN _ _ _) (congrArg (World.drewN _) (Nat.add_assoc _ _ _))⟩); have p10 : 0 ≤ (x9_1 : Int) := of_decide_eq_true y2_; have q10 : x9_1 < (a0.size : Int) := of_decide_eq_true y2_; have hx10 := bt_at a0 x9_1; replace p10 := eq_true p10; replace q10 := eq_true q10; have p12 : 0 ≤ (x9_1 : Int) := of_decide_eq_true y2_; have q12 : x9_1 < (a0.size : Int) := of_decide_eq_true y2_; have hx12 := bt_at a0 x9_1; replace p12 := eq_true p12; replace q12 := eq_true q12))
        repeat (go_quiet (first | (go_at_call 90; (with_reducible refine (fold_Space.calls (bt a0 x9_1) false _ A8.out).mono ?_); rintro e w' ⟨rfl, ⟨nd, rfl⟩⟩; (try first | exact ⟨rfl, _, World.drewN_drewN _ _ _⟩ | exact ⟨rfl, _, Eq.trans (World.drewN_drewN _ _ _) (congrArg (World.drewN _) (Nat.add_assoc _ _ _))⟩); have p10 : 0 ≤ (x9_1 : Int) := of_decide_eq_true y2_; have q10 : x9_1 < (a0.size : Int) := of_decide_eq_true y2_; have hx10 := bt_at a0 x9_1; replace p10 := eq_true p10; replace q10 := eq_true q10; have p12 : 0 ≤ (x9_1 : Int) := of_decide_eq_true y2_; have q12 : x9_1 < (a0.size : Int) := of_decide_eq_true y2_; have hx12 := bt_at a0 x9_1; replace p12 := eq_true p12; replace q12 := eq_true q12)); try go_wp2_with (first | (go_at_call 90; (with_reducible refine (fold_Space.calls (bt a0 x9_1) false _ A8.out).mono ?_); rintro e w' ⟨rfl, ⟨nd, rfl⟩⟩; (try first | exact ⟨rfl, _, World.drewN_drewN _ _ _⟩ | exact ⟨rfl, _, Eq.trans (World.drewN_drewN _ _ _) (congrArg (World.drewN _) (Nat.add_assoc _ _ _))⟩); have p10 : 0 ≤ (x9_1 : Int) := of_decide_eq_true y2_; have q10 : x9_1 < (a0.size : Int) := of_decide_eq_true y2_; have hx10 := bt_at a0 x9_1; replace p10 := eq_true p10; replace q10 := eq_true q10; have p12 : 0 ≤ (x9_1 : Int) := of_decide_eq_true y2_; have q12 : x9_1 < (a0.size : Int) := of_decide_eq_true y2_; have hx12 := bt_at a0 x9_1; replace p12 := eq_true p12; replace q12 := eq_true q12)))
        go_meet
        case rel => exact ⟨_, (true), y5_, H', ⟨by have := HK1.out; first | omega | exact Nat.le_refl _⟩, y3_⟩
       ·rw [if_neg c13] at H
        have c13b0 : decide ((bt a0 x9_1) ≤ 90) = false := decide_eq_false c13
        clear c13
        have H' := Aside0.mk H
        clear H
        have p7 : 0 ≤ (x9_1 : Int) := of_decide_eq_true y2_
        have q7 : x9_1 < (a0.size : Int) := of_decide_eq_true y2_
        have hx7 := bt_at a0 x9_1
        replace p7 := eq_true p7
        replace q7 := eq_true q7
        go_wp2_with (first | (go_at_call 90; (with_reducible refine (fold_Space.calls (bt a0 x9_1) false _ A8.out).mono ?_); rintro e w' ⟨rfl, ⟨nd, rfl⟩⟩; (try first | exact ⟨rfl, _, World.drewN_drewN _ _ _⟩ | exact ⟨rfl, _, Eq.trans (World.drewN_drewN _ _ _) (congrArg (World.drewN _) (Nat.add_assoc _ _ _))⟩); have p10 : 0 ≤ (x9_1 : Int) := of_decide_eq_true y2_; have q10 : x9_1 < (a0.size : Int) := of_decide_eq_true y2_; have hx10 := bt_at a0 x9_1; replace p10 := eq_true p10; replace q10 := eq_true q10; have p12 : 0 ≤ (x9_1 : Int) := of_decide_eq_true y2_; have q12 : x9_1 < (a0.size : Int) := of_decide_eq_true y2_; have hx12 := bt_at a0 x9_1; replace p12 := eq_true p12; replace q12 := eq_true q12; have p14 : 0 ≤ (x9_1 : Int) := of_decide_eq_true y2_; have q14 : x9_1 < (a0.size : Int) := of_decide_eq_true y2_; have hx14 := bt_at a0 x9_1; replace p14 := eq_true p14; replace q14 := eq_true q14))
        repeat (go_quiet (first | (go_at_call 90; (with_reducible refine (fold_Space.calls (bt a0 x9_1) false _ A8.out).mono ?_); rintro e w' ⟨rfl, ⟨nd, rfl⟩⟩; (try first | exact ⟨rfl, _, World.drewN_drewN _ _ _⟩ | exact ⟨rfl, _, Eq.trans (World.drewN_drewN _ _ _) (congrArg (World.drewN _) (Nat.add_assoc _ _ _))⟩); have p10 : 0 ≤ (x9_1 : Int) := of_decide_eq_true y2_; have q10 : x9_1 < (a0.size : Int) := of_decide_eq_true y2_; have hx10 := bt_at a0 x9_1; replace p10 := eq_true p10; replace q10 := eq_true q10; have p12 : 0 ≤ (x9_1 : Int) := of_decide_eq_true y2_; have q12 : x9_1 < (a0.size : Int) := of_decide_eq_true y2_; have hx12 := bt_at a0 x9_1; replace p12 := eq_true p12; replace q12 := eq_true q12; have p14 : 0 ≤ (x9_1 : Int) := of_decide_eq_true y2_; have q14 : x9_1 < (a0.size : Int) := of_decide_eq_true y2_; have hx14 := bt_at a0 x9_1; replace p14 := eq_true p14; replace q14 := eq_true q14)); try go_wp2_with (first | (go_at_call 90; (with_reducible refine (fold_Space.calls (bt a0 x9_1) false _ A8.out).mono ?_); rintro e w' ⟨rfl, ⟨nd, rfl⟩⟩; (try first | exact ⟨rfl, _, World.drewN_drewN _ _ _⟩ | exact ⟨rfl, _, Eq.trans (World.drewN_drewN _ _ _) (congrArg (World.drewN _) (Nat.add_assoc _ _ _))⟩); have p10 : 0 ≤ (x9_1 : Int) := of_decide_eq_true y2_; have q10 : x9_1 < (a0.size : Int) := of_decide_eq_true y2_; have hx10 := bt_at a0 x9_1; replace p10 := eq_true p10; replace q10 := eq_true q10; have p12 : 0 ≤ (x9_1 : Int) := of_decide_eq_true y2_; have q12 : x9_1 < (a0.size : Int) := of_decide_eq_true y2_; have hx12 := bt_at a0 x9_1; replace p12 := eq_true p12; replace q12 := eq_true q12; have p14 : 0 ≤ (x9_1 : Int) := of_decide_eq_true y2_; have q14 : x9_1 < (a0.size : Int) := of_decide_eq_true y2_; have hx14 := bt_at a0 x9_1; replace p14 := eq_true p14; replace q14 := eq_true q14)))
        go_meet
        case rel => exact ⟨_, (((bt a0 x9_1) == 0)), y5_, H', ⟨by have := HK1.out; first | omega | exact Nat.le_refl _⟩, y3_⟩
      ·rw [if_neg c11] at H
       have c11b0 : decide (65 ≤ (bt a0 x9_1)) = false := decide_eq_false c11
       clear c11
       have H' := Aside0.mk H
       clear H
       have p7 : 0 ≤ (x9_1 : Int) := of_decide_eq_true y2_
       have q7 : x9_1 < (a0.size : Int) := of_decide_eq_true y2_
       have hx7 := bt_at a0 x9_1
       replace p7 := eq_true p7
       replace q7 := eq_true q7
       go_wp2_with (first | (go_at_call 90; (with_reducible refine (fold_Space.calls (bt a0 x9_1) false _ A8.out).mono ?_); rintro e w' ⟨rfl, ⟨nd, rfl⟩⟩; (try first | exact ⟨rfl, _, World.drewN_drewN _ _ _⟩ | exact ⟨rfl, _, Eq.trans (World.drewN_drewN _ _ _) (congrArg (World.drewN _) (Nat.add_assoc _ _ _))⟩); have p10 : 0 ≤ (x9_1 : Int) := of_decide_eq_true y2_; have q10 : x9_1 < (a0.size : Int) := of_decide_eq_true y2_; have hx10 := bt_at a0 x9_1; replace p10 := eq_true p10; replace q10 := eq_true q10; have p15 : 0 ≤ (x9_1 : Int) := of_decide_eq_true y2_; have q15 : x9_1 < (a0.size : Int) := of_decide_eq_true y2_; have hx15 := bt_at a0 x9_1; replace p15 := eq_true p15; replace q15 := eq_true q15))
       repeat (go_quiet (first | (go_at_call 90; (with_reducible refine (fold_Space.calls (bt a0 x9_1) false _ A8.out).mono ?_); rintro e w' ⟨rfl, ⟨nd, rfl⟩⟩; (try first | exact ⟨rfl, _, World.drewN_drewN _ _ _⟩ | exact ⟨rfl, _, Eq.trans (World.drewN_drewN _ _ _) (congrArg (World.drewN _) (Nat.add_assoc _ _ _))⟩); have p10 : 0 ≤ (x9_1 : Int) := of_decide_eq_true y2_; have q10 : x9_1 < (a0.size : Int) := of_decide_eq_true y2_; have hx10 := bt_at a0 x9_1; replace p10 := eq_true p10; replace q10 := eq_true q10; have p15 : 0 ≤ (x9_1 : Int) := of_decide_eq_true y2_; have q15 : x9_1 < (a0.size : Int) := of_decide_eq_true y2_; have hx15 := bt_at a0 x9_1; replace p15 := eq_true p15; replace q15 := eq_true q15)); try go_wp2_with (first | (go_at_call 90; (with_reducible refine (fold_Space.calls (bt a0 x9_1) false _ A8.out).mono ?_); rintro e w' ⟨rfl, ⟨nd, rfl⟩⟩; (try first | exact ⟨rfl, _, World.drewN_drewN _ _ _⟩ | exact ⟨rfl, _, Eq.trans (World.drewN_drewN _ _ _) (congrArg (World.drewN _) (Nat.add_assoc _ _ _))⟩); have p10 : 0 ≤ (x9_1 : Int) := of_decide_eq_true y2_; have q10 : x9_1 < (a0.size : Int) := of_decide_eq_true y2_; have hx10 := bt_at a0 x9_1; replace p10 := eq_true p10; replace q10 := eq_true q10; have p15 : 0 ≤ (x9_1 : Int) := of_decide_eq_true y2_; have q15 : x9_1 < (a0.size : Int) := of_decide_eq_true y2_; have hx15 := bt_at a0 x9_1; replace p15 := eq_true p15; replace q15 := eq_true q15)))
       go_meet
       case rel => exact ⟨_, (((bt a0 x9_1) == 0)), y5_, H', ⟨by have := HK1.out; first | omega | exact Nat.le_refl _⟩, y3_⟩
    case rest =>
     clear HC4
     try clear c1
     try clear p1
     try clear q1
     try clear hx1
     try clear p2
     try clear c3
     try clear c3b0
     try clear c5
     try clear c5b0
     try clear c6
     try clear c6b0
     try clear c7
     try clear p7
     try clear q7
     try clear hx7
     try clear c9
     try clear p10
     try clear q10
     try clear hx10
     try clear c11
     try clear c11b0
     try clear p12
     try clear q12
     try clear hx12
     try clear c13
     try clear c13b0
     try clear p14
     try clear q14
     try clear hx14
     try clear p15
     try clear q15
     try clear hx15
     try clear p10
     try clear p12
     try clear p14
     try clear p15
     try clear p2
     try clear p7
     try clear q10
     try clear q12
     try clear q14
     try clear q15
     try clear q7
     obtain ⟨kq, x33_3, rfl, HA, HJ3, ⟨mc3, rfl⟩⟩ := hcut
     cases kq with
     | zero => exact absurd HA.out (by simp [names_plain.j1])
     | succ kj3 =>
      have H := HA.out
      clear HA
      simp only [names_plain.j1] at H
      by_cases c16 : x33_3 = true
      ·subst c16
       rw [if_pos rfl] at H
       obtain rfl := Option.some.inj H
       go_wp2
       repeat (go_quiet (fail); try go_wp2)
       go_ret
       exact ⟨y5_, y3_⟩
      ·replace c16 := Bool.eq_false_iff.mpr c16
       subst c16
       rw [if_neg (show ¬ (false = true) by decide)] at H
       have H' := Aside0.mk H
       clear H
       go_wp2
       repeat (go_quiet (fail); try go_wp2)
       go_loopg [36] kj3 (fun kq v36 w' => ∃ (x36_3 : Int), v36 = .int .i64 x36_3 ∧ Aside0 (names_plain.l1 kq a0 a1 x9_1 (a0.size : Int) x9_1 (a1.size : Int) x36_3 = some r) ∧ Aside0 (kq ≤ kj3) ∧ Drawn0 w w')
       case atStart => exact ⟨(0), y5_, H', ⟨Nat.le_refl _⟩, y3_⟩
       case round =>
        clear H'
        try clear c1
        try clear p1
        try clear q1
        try clear hx1
        try clear p2
        try clear c3
        try clear c3b0
        try clear c5
        try clear c5b0
        try clear c6
        try clear c6b0
        try clear c7
        try clear p7
        try clear q7
        try clear hx7
        try clear c9
        try clear p10
        try clear q10
        try clear hx10
        try clear c11
        try clear c11b0
        try clear p12
        try clear q12
        try clear hx12
        try clear c13
        try clear c13b0
        try clear p14
        try clear q14
        try clear hx14
        try clear p15
        try clear q15
        try clear hx15
        try clear c16
        try clear p1
        try clear p10
        try clear p12
        try clear p14
        try clear p15
        try clear p2
        try clear p7
        try clear q1
        try clear q10
        try clear q12
        try clear q14
        try clear q15
        try clear q7
        obtain ⟨x36_3, rfl, HA, HK3, ⟨m3, rfl⟩⟩ := hrel
        cases gk with
        | zero => exact absurd HA.out (by simp [names_plain.l1])
        | succ k3 =>
         have H := HA.out
         clear HA
         simp only [names_plain.l1] at H
         by_cases c17 : x36_3 < (a1.size : Int)
         ·rw [if_pos c17] at H
          have c17b0 : decide (x36_3 < (a1.size : Int)) = true := decide_eq_true c17
          clear c17
          by_cases c18 : 0 ≤ x9_1
          rotate_left
          ·rw [if_neg c18] at H
           exact absurd H (by simp)
          rw [if_pos c18] at H
          have c18b0 : decide (0 ≤ x9_1) = true := decide_eq_true c18
          clear c18
          by_cases c19 : x9_1 < (a0.size : Int)
          rotate_left
          ·rw [if_neg c19] at H
           exact absurd H (by simp)
          rw [if_pos c19] at H
          have c19b0 : decide (x9_1 < (a0.size : Int)) = true := decide_eq_true c19
          clear c19
          by_cases c21 : 0 ≤ x36_3
          rotate_left
          ·rw [if_neg c21] at H
           exact absurd H (by simp)
          rw [if_pos c21] at H
          have c21b0 : decide (0 ≤ x36_3) = true := decide_eq_true c21
          clear c21
          by_cases c22 : x36_3 < (a1.size : Int)
          rotate_left
          ·rw [if_neg c22] at H
           exact absurd H (by simp)
          rw [if_pos c22] at H
          have c22b0 : decide (x36_3 < (a1.size : Int)) = true := decide_eq_true c22
          clear c22
          by_cases c24 : (bt a0 x9_1) = (bt a1 x36_3)
          ·rw [if_pos c24] at H
           have c24b0 : ((bt a0 x9_1) == (bt a1 x36_3)) = true := beq_iff_eq.mpr c24
           have c24b1 : ((bt a0 x9_1) != (bt a1 x36_3)) = false := bne_eq_false_iff_eq.mpr c24
           clear c24
           obtain rfl := Option.some.inj H
           have p20 : 0 ≤ (x9_1 : Int) := of_decide_eq_true y2_
           have q20 : x9_1 < (a0.size : Int) := of_decide_eq_true y2_
           have hx20 := bt_at a0 x9_1
           replace p20 := eq_true p20
           replace q20 := eq_true q20
           have p23 : 0 ≤ (x36_3 : Int) := of_decide_eq_true y2_
           have q23 : x36_3 < (a1.size : Int) := of_decide_eq_true y2_
           have hx23 := bt_at a1 x36_3
           replace p23 := eq_true p23
           replace q23 := eq_true q23
           go_wp2
           repeat (go_quiet (fail); try go_wp2)
           go_ret
           exact ⟨y5_, y3_⟩
          ·rw [if_neg c24] at H
           have c24b0 : ((bt a0 x9_1) == (bt a1 x36_3)) = false := beq_eq_false_iff_ne.mpr c24
           have c24b1 : ((bt a0 x9_1) != (bt a1 x36_3)) = true := bne_iff_ne.mpr c24
           have H' := Aside0.mk H
           clear H
           have p20 : 0 ≤ (x9_1 : Int) := of_decide_eq_true y2_
           have q20 : x9_1 < (a0.size : Int) := of_decide_eq_true y2_
           have hx20 := bt_at a0 x9_1
           replace p20 := eq_true p20
           replace q20 := eq_true q20
           have p23 : 0 ≤ (x36_3 : Int) := of_decide_eq_true y2_
           have q23 : x36_3 < (a1.size : Int) := of_decide_eq_true y2_
           have hx23 := bt_at a1 x36_3
           replace p23 := eq_true p23
           replace q23 := eq_true q23
           go_wp2
           repeat (go_quiet (fail); try go_wp2)
           go_roundg k3
           case measure => have := HK1.out; have := HJ3.out; have := HK3.out; omega
           case rel => exact ⟨(wrap64 (x36_3 + 1)), y5_, H', ⟨by have := HK1.out; have := HJ3.out; have := HK3.out; omega⟩, y3_⟩
         ·rw [if_neg c17] at H
          have c17b0 : decide (x36_3 < (a1.size : Int)) = false := decide_eq_false c17
          clear c17
          have H' := Aside0.mk H
          clear H
          go_wp2
          repeat (go_quiet (fail); try go_wp2)
          go_roundg k3
          case measure => have := HK1.out; have := HJ3.out; have := HK3.out; omega
          case rel => exact ⟨(wrap64 (x9_1 + 1)), y5_, H', ⟨by have := HK1.out; have := HJ3.out; have := HK3.out; omega⟩, y3_⟩
   ·rw [if_neg c3] at H
    have c3b0 : decide (x9_1 < (a0.size : Int)) = false := decide_eq_false c3
    clear c3
    obtain rfl := Option.some.inj H
    go_wp2
    repeat (go_quiet (fail); try go_wp2)
    go_ret
    exact ⟨y5_, y3_⟩
end Go.Proofs.YtpnhjipaeggcpaaDoor.X
end
section
namespace Go.Proofs.YtpnhjipaeggcpaaDoor.X
open Go.RowKit Go.Proofs.YtpnhjipaeggcpaaDoorW.PrintWords Go.Proofs.YtpnhjipaeggcpaaDoorW.PrintLast Go.Proofs.YtpnhjipaeggcpaaDoorW.PrintMore
attribute [local go_sem] max2_int min2_int max_two min_two max_three min_three max_four min_four
def fold_Letter.f (a0 : Int) : Option (Bool) := if a0 ≥ 97 then (if a0 ≤ 122 then (some true) else (if a0 ≥ 65 then (some (decide (a0 ≤ 90))) else (some false))) else (if a0 ≥ 65 then (some (decide (a0 ≤ 90))) else (some false))
set_option maxHeartbeats 8000000 in
set_option maxRecDepth 100000 in
theorem fold_Letter.calls (a0 : Int) (r : Bool) (w : World) (h : fold_Letter.f a0 = some r) :
  Calls Tryd.prog 73 #[.int .u8 a0] w fun e w' => e = .returned (.bool r) ∧ Drawn0 w w' := by
 have H : (if a0 ≥ 97 then (if a0 ≤ 122 then (some true) else (if a0 ≥ 65 then (some (decide (a0 ≤ 90))) else (some false))) else (if a0 ≥ 65 then (some (decide (a0 ≤ 90))) else (some false))) = some r := h
 clear h
 by_cases c2 : a0 ≥ 97
 ·rw [if_pos c2] at H
  have c2b0 : decide (97 ≤ a0) = true := decide_eq_true c2
  clear c2
  by_cases c3 : a0 ≤ 122
  ·rw [if_pos c3] at H
   have c3b0 : decide (a0 ≤ 122) = true := decide_eq_true c3
   clear c3
   obtain rfl := Option.some.inj H
   go_enter Tryd.func73, Tryd.ntmps73
   go_wp2
   go_ret
   exact ⟨y5_, y3_⟩
  ·rw [if_neg c3] at H
   have c3b0 : decide (a0 ≤ 122) = false := decide_eq_false c3
   clear c3
   by_cases c4 : a0 ≥ 65
   ·rw [if_pos c4] at H
    have c4b0 : decide (65 ≤ a0) = true := decide_eq_true c4
    clear c4
    obtain rfl := Option.some.inj H
    go_enter Tryd.func73, Tryd.ntmps73
    go_wp2
    go_ret
    exact ⟨y5_, y3_⟩
   ·rw [if_neg c4] at H
    have c4b0 : decide (65 ≤ a0) = false := decide_eq_false c4
    clear c4
    obtain rfl := Option.some.inj H
    go_enter Tryd.func73, Tryd.ntmps73
    go_wp2
    go_ret
    exact ⟨y5_, y3_⟩
 ·rw [if_neg c2] at H
  have c2b0 : decide (97 ≤ a0) = false := decide_eq_false c2
  clear c2
  by_cases c5 : a0 ≥ 65
  ·rw [if_pos c5] at H
   have c5b0 : decide (65 ≤ a0) = true := decide_eq_true c5
   clear c5
   obtain rfl := Option.some.inj H
   go_enter Tryd.func73, Tryd.ntmps73
   go_wp2
   go_ret
   exact ⟨y5_, y3_⟩
  ·rw [if_neg c5] at H
   have c5b0 : decide (65 ≤ a0) = false := decide_eq_false c5
   clear c5
   obtain rfl := Option.some.inj H
   go_enter Tryd.func73, Tryd.ntmps73
   go_wp2
   go_ret
   exact ⟨y5_, y3_⟩
end Go.Proofs.YtpnhjipaeggcpaaDoor.X
end
section
namespace Go.Proofs.YtpnhjipaeggcpaaDoor.X
open Go.RowKit Go.Proofs.YtpnhjipaeggcpaaDoorW.PrintWords Go.Proofs.YtpnhjipaeggcpaaDoorW.PrintLast Go.Proofs.YtpnhjipaeggcpaaDoorW.PrintMore
attribute [local go_sem] max2_int min2_int max_two min_two max_three min_three max_four min_four
def names_Right.f (k : Nat) (a0 : ByteArray) : Option (Bool) := (names_plain.f k a0 (⟨#[47, 62]⟩ : ByteArray)).bind fun t279 => (if t279 = true then (if 0 < (a0.size : Int) then ((fold_Letter.f (bt a0 0)).bind fun t280 => (some t280)) else (none)) else (some false))
set_option maxHeartbeats 8000000 in
set_option maxRecDepth 100000 in
theorem names_Right.calls (k : Nat) (a0 : ByteArray) (r : Bool) (w : World) (h : names_Right.f k a0 = some r) :
  Calls Tryd.prog 53 #[.string a0] w fun e w' => e = .returned (.bool r) ∧ Drawn0 w w' := by
 have H : ((names_plain.f k a0 (⟨#[47, 62]⟩ : ByteArray)).bind fun t279 => (if t279 = true then (if 0 < (a0.size : Int) then ((fold_Letter.f (bt a0 0)).bind fun t280 => (some t280)) else (none)) else (some false))) = some r := h
 clear h
 replace H := Option.bind_eq_some_iff.mp H
 obtain ⟨t279, A20, H⟩ := H
 have A2 := Aside0.mk A20
 clear A20
 by_cases c3 : t279 = true
 ·subst c3
  rw [if_pos rfl] at H
  by_cases c4 : 0 < (a0.size : Int)
  rotate_left
  ·rw [if_neg c4] at H
   exact absurd H (by simp)
  rw [if_pos c4] at H
  have c4b0 : decide (0 < (a0.size : Int)) = true := decide_eq_true c4
  have c4b1 : decide (0 < a0.size) = true := decide_eq_true (by omega)
  clear c4
  replace H := Option.bind_eq_some_iff.mp H
  obtain ⟨t280, A60, H⟩ := H
  have A6 := Aside0.mk A60
  clear A60
  obtain rfl := Option.some.inj H
  go_enter Tryd.func53, Tryd.ntmps53
  go_wp2_with (first | ((with_reducible refine gate_callee (f := 72) rfl ?_); refine goesL_ (some 4) rfl rfl Tryd.func72 (by kernel_rfl) rfl #[.string a0, .string (⟨#[47, 62]⟩ : ByteArray)] rfl y15_ ?_; (with_reducible refine (names_plain.calls k a0 (⟨#[47, 62]⟩ : ByteArray) true _ A2.out).mono ?_); rintro e w' ⟨rfl, ⟨nd, rfl⟩⟩; refine ⟨_, rfl, ?_⟩; have p5 : 0 ≤ (0 : Int) := (by omega); have q5 : 0 < a0.size := (by have : (0 : Int) < (a0.size : Int) := of_decide_eq_true y2_; omega); have hx5 : ∀ h : 0 < a0.size, ((a0[0]'h).toNat : Int) = bt a0 0 := bt_at a0 0; clear p5; have qi5 : (0 < (a0.size : Int)) = True := eq_true (of_decide_eq_true y2_); replace q5 := eq_true q5) | (go_at_call 73; (with_reducible refine (fold_Letter.calls (bt a0 0) t280 _ A6.out).mono ?_); rintro e w' ⟨rfl, ⟨nd, rfl⟩⟩))
  go_ret
  exact ⟨y5_, y3_⟩
 ·replace c3 := Bool.eq_false_iff.mpr c3
  subst c3
  rw [if_neg (show ¬ (false = true) by decide)] at H
  obtain rfl := Option.some.inj H
  go_enter Tryd.func53, Tryd.ntmps53
  go_wp2_with (first | ((with_reducible refine gate_callee (f := 72) rfl ?_); refine goesL_ (some 4) rfl rfl Tryd.func72 (by kernel_rfl) rfl #[.string a0, .string (⟨#[47, 62]⟩ : ByteArray)] rfl y15_ ?_; (with_reducible refine (names_plain.calls k a0 (⟨#[47, 62]⟩ : ByteArray) false _ A2.out).mono ?_); rintro e w' ⟨rfl, ⟨nd, rfl⟩⟩; refine ⟨_, rfl, ?_⟩))
  go_ret
  exact ⟨y5_, y3_⟩
end Go.Proofs.YtpnhjipaeggcpaaDoor.X
end
section
namespace Go.Proofs.YtpnhjipaeggcpaaDoor.X
open Go.RowKit Go.Proofs.YtpnhjipaeggcpaaDoorW.PrintWords Go.Proofs.YtpnhjipaeggcpaaDoorW.PrintLast Go.Proofs.YtpnhjipaeggcpaaDoorW.PrintMore
attribute [local go_sem] max2_int min2_int max_two min_two max_three min_three max_four min_four
def names_Gone.f (k : Nat) (a0 : ByteArray) : Option (Bool) := (names_among.f k a0 (([(⟨#[98, 111, 100, 121]⟩ : ByteArray), (⟨#[102, 114, 97, 109, 101, 115, 101, 116]⟩ : ByteArray), (⟨#[104, 101, 97, 100]⟩ : ByteArray), (⟨#[104, 116, 109, 108]⟩ : ByteArray)] : List ByteArray))).bind fun t284 => (some t284)
set_option maxHeartbeats 8000000 in
set_option maxRecDepth 100000 in
theorem names_Gone.calls (k : Nat) (a0 : ByteArray) (r : Bool) (w : World) (h : names_Gone.f k a0 = some r) :
  Calls Tryd.prog 54 #[.string a0] w fun e w' => e = .returned (.bool r) ∧ Below w.heap.size w w' := by
 have HB := Aside0.mk (Below.refl w.heap.size w)
 have H : ((names_among.f k a0 (([(⟨#[98, 111, 100, 121]⟩ : ByteArray), (⟨#[102, 114, 97, 109, 101, 115, 101, 116]⟩ : ByteArray), (⟨#[104, 101, 97, 100]⟩ : ByteArray), (⟨#[104, 116, 109, 108]⟩ : ByteArray)] : List ByteArray))).bind fun t284 => (some t284)) = some r := h
 clear h
 obtain ⟨y281, hy281⟩ : ∃ y_ : List ByteArray, y_ = (([(⟨#[98, 111, 100, 121]⟩ : ByteArray), (⟨#[102, 114, 97, 109, 101, 115, 101, 116]⟩ : ByteArray), (⟨#[104, 101, 97, 100]⟩ : ByteArray), (⟨#[104, 116, 109, 108]⟩ : ByteArray)] : List ByteArray)) := ⟨_, rfl⟩
 replace H : ((names_among.f k a0 y281).bind fun t284 => (some t284)) = some r := by first | (rw [hy281]; with_reducible exact H) | (have H2_ := (Option.bind_some _ _).symm.trans H; rw [hy281]; with_reducible exact H2_) | (have H2_ := (Option.bind_some _ _).symm.trans H; with_reducible exact H2_) | with_reducible exact H | (rw [hy281]; exact H) | exact H
 have Ny281 := Aside0.mk hy281
 clear hy281
 replace H := Option.bind_eq_some_iff.mp H
 obtain ⟨t284, A20, H⟩ := H
 have A2 := Aside0.mk A20
 clear A20
 obtain rfl := Option.some.inj H
 go_enter Tryd.func54, Tryd.ntmps54
 go_wp2_with (first | ((with_reducible refine gate_dst (N := 4) rfl ?_); refine Kd.R_lit Kd.string _ 9 ?hg (N := 4) ?hd (xs := ([(⟨#[98, 111, 100, 121]⟩ : ByteArray), (⟨#[102, 114, 97, 109, 101, 115, 101, 116]⟩ : ByteArray), (⟨#[104, 101, 97, 100]⟩ : ByteArray), (⟨#[104, 116, 109, 108]⟩ : ByteArray)] : List ByteArray)) (inner := [.string (⟨#[98, 111, 100, 121]⟩ : ByteArray), .string (⟨#[102, 114, 97, 109, 101, 115, 101, 116]⟩ : ByteArray), .string (⟨#[104, 101, 97, 100]⟩ : ByteArray), .string (⟨#[104, 116, 109, 108]⟩ : ByteArray)]) (ok := fun _ => True) (okp := fun _ => True) ?hr ?hp (fun _ hk => hk) trivial (Below.refl _ _) (Nat.le_refl _) (by simp) ?_; (case hd => rfl); (case hg => rfl); (case hr => first | (go_simp; done) | (go_simp; rfl)); (case hp => exact (Reps.one (show Kd.M Kd.string _ _ _ (⟨#[98, 111, 100, 121]⟩ : ByteArray) [.string (⟨#[98, 111, 100, 121]⟩ : ByteArray)] from rfl) (Reps.one (show Kd.M Kd.string _ _ _ (⟨#[102, 114, 97, 109, 101, 115, 101, 116]⟩ : ByteArray) [.string (⟨#[102, 114, 97, 109, 101, 115, 101, 116]⟩ : ByteArray)] from rfl) (Reps.one (show Kd.M Kd.string _ _ _ (⟨#[104, 101, 97, 100]⟩ : ByteArray) [.string (⟨#[104, 101, 97, 100]⟩ : ByteArray)] from rfl) (Reps.one (show Kd.M Kd.string _ _ _ (⟨#[104, 116, 109, 108]⟩ : ByteArray) [.string (⟨#[104, 116, 109, 108]⟩ : ByteArray)] from rfl) (Reps.none _ _)))))); intro v282 w3 ho4 hb hg_ hnew_; clear hg_ hnew_; (first | rw [← Ny281.out] at ho4 | (simp only [Int.reduceToNat] at ho4; rw [← Ny281.out] at ho4)); have n0_ := Aside0.mk (Kd.R_lower ho4 (below_size y14_)); have n1_ := Aside0.mk (below_step y14_ hb); clear HB; have HO283 := n0_; have HB := n1_; clear n0_ n1_; clear hb ho4; obtain ⟨Ao5, co5, eo5⟩ := Kd.R_slice HO283.out; subst eo5) | ((with_reducible refine gate_callee (f := 42) rfl ?_); refine goesL_ (some 5) rfl rfl Tryd.func42 (by kernel_rfl) rfl #[.string a0, .slice Ao5 y281.length co5] rfl y15_ ?_; (with_reducible refine (names_among.calls k a0 _ _ y281 t284 _ ?side1 ?side2 A2.out).mono ?_); (case side1 => repeat (first | exact (Kd.R_reads' HO283.out).2.2 | (with_reducible refine Kd.C_alloc ?_ _) | (with_reducible refine Kd.C_drewN ?_ _) | (with_reducible refine Kd.C_drew ?_))); (case side2 => exact (Kd.R_reads' HO283.out).2.1); rintro e w' ⟨rfl, ⟨nd, rfl⟩⟩; refine ⟨_, rfl, ?_⟩))
 go_ret
 exact ⟨y13_, y14_⟩
end Go.Proofs.YtpnhjipaeggcpaaDoor.X
end
section
namespace Go.Proofs.YtpnhjipaeggcpaaDoor.X
open Go.RowKit Go.Proofs.YtpnhjipaeggcpaaDoorW.PrintWords Go.Proofs.YtpnhjipaeggcpaaDoorW.PrintLast Go.Proofs.YtpnhjipaeggcpaaDoorW.PrintMore
attribute [local go_sem] max2_int min2_int max_two min_two max_three min_three max_four min_four
def build_paragraph.f (a0 : ByteArray) : Option (Bool) := if a0.toList = ([108, 105] : List UInt8) then (some true) else (if a0.toList = ([100, 100] : List UInt8) then (some true) else (some (a0.toList == ([100, 116] : List UInt8))))
set_option maxHeartbeats 8000000 in
set_option maxRecDepth 100000 in
theorem build_paragraph.calls (a0 : ByteArray) (r : Bool) (w : World) (h : build_paragraph.f a0 = some r) :
  Calls Tryd.prog 74 #[.string a0] w fun e w' => e = .returned (.bool r) ∧ Drawn0 w w' := by
 have H : (if a0.toList = ([108, 105] : List UInt8) then (some true) else (if a0.toList = ([100, 100] : List UInt8) then (some true) else (some (a0.toList == ([100, 116] : List UInt8))))) = some r := h
 clear h
 by_cases c2 : a0.toList = ([108, 105] : List UInt8)
 ·rw [if_pos c2] at H
  have c2b0 : (a0.toList == ([108, 105] : List UInt8)) = true := beq_iff_eq.mpr c2
  have c2b1 : (a0.toList != ([108, 105] : List UInt8)) = false := bne_eq_false_iff_eq.mpr c2
  clear c2
  obtain rfl := Option.some.inj H
  go_enter Tryd.func74, Tryd.ntmps74
  go_wp2
  go_ret
  exact ⟨y5_, y3_⟩
 ·rw [if_neg c2] at H
  have c2b0 : (a0.toList == ([108, 105] : List UInt8)) = false := beq_eq_false_iff_ne.mpr c2
  have c2b1 : (a0.toList != ([108, 105] : List UInt8)) = true := bne_iff_ne.mpr c2
  by_cases c3 : a0.toList = ([100, 100] : List UInt8)
  ·rw [if_pos c3] at H
   have c3b0 : (a0.toList == ([100, 100] : List UInt8)) = true := beq_iff_eq.mpr c3
   have c3b1 : (a0.toList != ([100, 100] : List UInt8)) = false := bne_eq_false_iff_eq.mpr c3
   clear c3
   obtain rfl := Option.some.inj H
   go_enter Tryd.func74, Tryd.ntmps74
   go_wp2
   go_ret
   exact ⟨y5_, y3_⟩
  ·rw [if_neg c3] at H
   have c3b0 : (a0.toList == ([100, 100] : List UInt8)) = false := beq_eq_false_iff_ne.mpr c3
   have c3b1 : (a0.toList != ([100, 100] : List UInt8)) = true := bne_iff_ne.mpr c3
   obtain rfl := Option.some.inj H
   go_enter Tryd.func74, Tryd.ntmps74
   go_wp2
   go_ret
   exact ⟨y5_, y3_⟩
end Go.Proofs.YtpnhjipaeggcpaaDoor.X
end
section
namespace Go.Proofs.YtpnhjipaeggcpaaDoor.X
open Go.RowKit Go.Proofs.YtpnhjipaeggcpaaDoorW.PrintWords Go.Proofs.YtpnhjipaeggcpaaDoorW.PrintLast Go.Proofs.YtpnhjipaeggcpaaDoorW.PrintMore
attribute [local go_sem] max2_int min2_int max_two min_two max_three min_three max_four min_four
def names_table.f (k : Nat) (a0 : ByteArray) : Option (Bool) := (names_among.f k a0 (([(⟨#[116, 114]⟩ : ByteArray), (⟨#[116, 100]⟩ : ByteArray), (⟨#[116, 104]⟩ : ByteArray), (⟨#[116, 98, 111, 100, 121]⟩ : ByteArray), (⟨#[116, 102, 111, 111, 116]⟩ : ByteArray), (⟨#[116, 104, 101, 97, 100]⟩ : ByteArray)] : List ByteArray))).bind fun t288 => (some t288)
theorem names_table.mono : ∀ a0 k, LeO (names_table.f k a0) (names_table.f (k + 1) a0) := by
 intro a0 k
 unfold names_table.f
 repeat' first
   | (with_reducible exact names_among.mono _ _ _)
   | (with_reducible exact LeO.refl _)
   | (with_reducible exact LeO.none _)
   | (with_reducible refine LeO.ite ?_ ?_)
   | (with_reducible refine LeO.bind ?_ (fun _ => ?_))
   | exact names_among.mono _ _ _
   | exact LeO.none _
   | refine LeO.ite ?_ ?_
   | refine LeO.bind ?_ (fun _ => ?_)
set_option maxHeartbeats 8000000 in
set_option maxRecDepth 100000 in
theorem names_table.calls (k : Nat) (a0 : ByteArray) (r : Bool) (w : World) (h : names_table.f k a0 = some r) :
  Calls Tryd.prog 93 #[.string a0] w fun e w' => e = .returned (.bool r) ∧ Below w.heap.size w w' := by
 have HB := Aside0.mk (Below.refl w.heap.size w)
 have H : ((names_among.f k a0 (([(⟨#[116, 114]⟩ : ByteArray), (⟨#[116, 100]⟩ : ByteArray), (⟨#[116, 104]⟩ : ByteArray), (⟨#[116, 98, 111, 100, 121]⟩ : ByteArray), (⟨#[116, 102, 111, 111, 116]⟩ : ByteArray), (⟨#[116, 104, 101, 97, 100]⟩ : ByteArray)] : List ByteArray))).bind fun t288 => (some t288)) = some r := h
 clear h
 obtain ⟨y285, hy285⟩ : ∃ y_ : List ByteArray, y_ = (([(⟨#[116, 114]⟩ : ByteArray), (⟨#[116, 100]⟩ : ByteArray), (⟨#[116, 104]⟩ : ByteArray), (⟨#[116, 98, 111, 100, 121]⟩ : ByteArray), (⟨#[116, 102, 111, 111, 116]⟩ : ByteArray), (⟨#[116, 104, 101, 97, 100]⟩ : ByteArray)] : List ByteArray)) := ⟨_, rfl⟩
 replace H : ((names_among.f k a0 y285).bind fun t288 => (some t288)) = some r := by first | (rw [hy285]; with_reducible exact H) | (have H2_ := (Option.bind_some _ _).symm.trans H; rw [hy285]; with_reducible exact H2_) | (have H2_ := (Option.bind_some _ _).symm.trans H; with_reducible exact H2_) | with_reducible exact H | (rw [hy285]; exact H) | exact H
 have Ny285 := Aside0.mk hy285
 clear hy285
 replace H := Option.bind_eq_some_iff.mp H
 obtain ⟨t288, A20, H⟩ := H
 have A2 := Aside0.mk A20
 clear A20
 obtain rfl := Option.some.inj H
 go_enter Tryd.func93, Tryd.ntmps93
 go_wp2_with (first | ((with_reducible refine gate_dst (N := 4) rfl ?_); refine Kd.R_lit Kd.string _ 9 ?hg (N := 4) ?hd (xs := ([(⟨#[116, 114]⟩ : ByteArray), (⟨#[116, 100]⟩ : ByteArray), (⟨#[116, 104]⟩ : ByteArray), (⟨#[116, 98, 111, 100, 121]⟩ : ByteArray), (⟨#[116, 102, 111, 111, 116]⟩ : ByteArray), (⟨#[116, 104, 101, 97, 100]⟩ : ByteArray)] : List ByteArray)) (inner := [.string (⟨#[116, 114]⟩ : ByteArray), .string (⟨#[116, 100]⟩ : ByteArray), .string (⟨#[116, 104]⟩ : ByteArray), .string (⟨#[116, 98, 111, 100, 121]⟩ : ByteArray), .string (⟨#[116, 102, 111, 111, 116]⟩ : ByteArray), .string (⟨#[116, 104, 101, 97, 100]⟩ : ByteArray)]) (ok := fun _ => True) (okp := fun _ => True) ?hr ?hp (fun _ hk => hk) trivial (Below.refl _ _) (Nat.le_refl _) (by simp) ?_; (case hd => rfl); (case hg => rfl); (case hr => first | (go_simp; done) | (go_simp; rfl)); (case hp => exact (Reps.one (show Kd.M Kd.string _ _ _ (⟨#[116, 114]⟩ : ByteArray) [.string (⟨#[116, 114]⟩ : ByteArray)] from rfl) (Reps.one (show Kd.M Kd.string _ _ _ (⟨#[116, 100]⟩ : ByteArray) [.string (⟨#[116, 100]⟩ : ByteArray)] from rfl) (Reps.one (show Kd.M Kd.string _ _ _ (⟨#[116, 104]⟩ : ByteArray) [.string (⟨#[116, 104]⟩ : ByteArray)] from rfl) (Reps.one (show Kd.M Kd.string _ _ _ (⟨#[116, 98, 111, 100, 121]⟩ : ByteArray) [.string (⟨#[116, 98, 111, 100, 121]⟩ : ByteArray)] from rfl) (Reps.one (show Kd.M Kd.string _ _ _ (⟨#[116, 102, 111, 111, 116]⟩ : ByteArray) [.string (⟨#[116, 102, 111, 111, 116]⟩ : ByteArray)] from rfl) (Reps.one (show Kd.M Kd.string _ _ _ (⟨#[116, 104, 101, 97, 100]⟩ : ByteArray) [.string (⟨#[116, 104, 101, 97, 100]⟩ : ByteArray)] from rfl) (Reps.none _ _)))))))); intro v286 w3 ho4 hb hg_ hnew_; clear hg_ hnew_; (first | rw [← Ny285.out] at ho4 | (simp only [Int.reduceToNat] at ho4; rw [← Ny285.out] at ho4)); have n0_ := Aside0.mk (Kd.R_lower ho4 (below_size y14_)); have n1_ := Aside0.mk (below_step y14_ hb); clear HB; have HO287 := n0_; have HB := n1_; clear n0_ n1_; clear hb ho4; obtain ⟨Ao5, co5, eo5⟩ := Kd.R_slice HO287.out; subst eo5) | ((with_reducible refine gate_callee (f := 42) rfl ?_); refine goesL_ (some 5) rfl rfl Tryd.func42 (by kernel_rfl) rfl #[.string a0, .slice Ao5 y285.length co5] rfl y15_ ?_; (with_reducible refine (names_among.calls k a0 _ _ y285 t288 _ ?side1 ?side2 A2.out).mono ?_); (case side1 => repeat (first | exact (Kd.R_reads' HO287.out).2.2 | (with_reducible refine Kd.C_alloc ?_ _) | (with_reducible refine Kd.C_drewN ?_ _) | (with_reducible refine Kd.C_drew ?_))); (case side2 => exact (Kd.R_reads' HO287.out).2.1); rintro e w' ⟨rfl, ⟨nd, rfl⟩⟩; refine ⟨_, rfl, ?_⟩))
 go_ret
 exact ⟨y13_, y14_⟩
end Go.Proofs.YtpnhjipaeggcpaaDoor.X
end
section
namespace Go.Proofs.YtpnhjipaeggcpaaDoor.X
open Go.RowKit Go.Proofs.YtpnhjipaeggcpaaDoorW.PrintWords Go.Proofs.YtpnhjipaeggcpaaDoorW.PrintLast Go.Proofs.YtpnhjipaeggcpaaDoorW.PrintMore
attribute [local go_sem] max2_int min2_int max_two min_two max_three min_three max_four min_four
def names_Walls.f (k : Nat) (a0 : ByteArray) : Option (List ByteArray) := if a0.toList = ([108, 105] : List UInt8) then (some (([(⟨#[109, 101, 110, 117]⟩ : ByteArray), (⟨#[111, 108]⟩ : ByteArray), (⟨#[116, 101, 109, 112, 108, 97, 116, 101]⟩ : ByteArray), (⟨#[117, 108]⟩ : ByteArray)] : List ByteArray))) else ((names_among.f k a0 (([(⟨#[100, 100]⟩ : ByteArray), (⟨#[100, 116]⟩ : ByteArray)] : List ByteArray))).bind fun t295 => (if t295 = true then (some (([(⟨#[100, 108]⟩ : ByteArray), (⟨#[116, 101, 109, 112, 108, 97, 116, 101]⟩ : ByteArray)] : List ByteArray))) else ((names_among.f k a0 (([(⟨#[111, 112, 116, 105, 111, 110]⟩ : ByteArray), (⟨#[111, 112, 116, 103, 114, 111, 117, 112]⟩ : ByteArray)] : List ByteArray))).bind fun t302 => (if t302 = true then (some (([(⟨#[115, 101, 108, 101, 99, 116]⟩ : ByteArray), (⟨#[116, 101, 109, 112, 108, 97, 116, 101]⟩ : ByteArray)] : List ByteArray))) else ((names_table.f k a0).bind fun t306 => (if t306 = true then (some (([(⟨#[116, 97, 98, 108, 101]⟩ : ByteArray), (⟨#[116, 101, 109, 112, 108, 97, 116, 101]⟩ : ByteArray)] : List ByteArray))) else (some (([(⟨#[98, 117, 116, 116, 111, 110]⟩ : ByteArray), (⟨#[99, 97, 112, 116, 105, 111, 110]⟩ : ByteArray), (⟨#[116, 97, 98, 108, 101]⟩ : ByteArray), (⟨#[116, 100]⟩ : ByteArray), (⟨#[116, 101, 109, 112, 108, 97, 116, 101]⟩ : ByteArray), (⟨#[116, 104]⟩ : ByteArray)] : List ByteArray)))))))))
theorem names_Walls.mono : ∀ a0 k, LeO (names_Walls.f k a0) (names_Walls.f (k + 1) a0) := by
 intro a0 k
 unfold names_Walls.f
 repeat' first
   | (with_reducible exact names_among.mono _ _ _)
   | (with_reducible exact names_table.mono _ _)
   | (with_reducible exact LeO.refl _)
   | (with_reducible exact LeO.none _)
   | (with_reducible refine LeO.ite ?_ ?_)
   | (with_reducible refine LeO.bind ?_ (fun _ => ?_))
   | exact names_among.mono _ _ _
   | exact names_table.mono _ _
   | exact LeO.none _
   | refine LeO.ite ?_ ?_
   | refine LeO.bind ?_ (fun _ => ?_)
set_option maxHeartbeats 8000000 in
set_option maxRecDepth 100000 in
theorem names_Walls.calls (k : Nat) (a0 : ByteArray) (r : List ByteArray) (w : World) (h : names_Walls.f k a0 = some r) :
  Calls Tryd.prog 76 #[.string a0] w fun e w' => ∃ v0_ : Value, e = .returned (v0_) ∧ Kd.R Kd.string 9 w' w.heap.size (fun _ => True) v0_ r ∧ Below w.heap.size w w' := by
 have HB := Aside0.mk (Below.refl w.heap.size w)
 have H : (if a0.toList = ([108, 105] : List UInt8) then (some (([(⟨#[109, 101, 110, 117]⟩ : ByteArray), (⟨#[111, 108]⟩ : ByteArray), (⟨#[116, 101, 109, 112, 108, 97, 116, 101]⟩ : ByteArray), (⟨#[117, 108]⟩ : ByteArray)] : List ByteArray))) else ((names_among.f k a0 (([(⟨#[100, 100]⟩ : ByteArray), (⟨#[100, 116]⟩ : ByteArray)] : List ByteArray))).bind fun t295 => (if t295 = true then (some (([(⟨#[100, 108]⟩ : ByteArray), (⟨#[116, 101, 109, 112, 108, 97, 116, 101]⟩ : ByteArray)] : List ByteArray))) else ((names_among.f k a0 (([(⟨#[111, 112, 116, 105, 111, 110]⟩ : ByteArray), (⟨#[111, 112, 116, 103, 114, 111, 117, 112]⟩ : ByteArray)] : List ByteArray))).bind fun t302 => (if t302 = true then (some (([(⟨#[115, 101, 108, 101, 99, 116]⟩ : ByteArray), (⟨#[116, 101, 109, 112, 108, 97, 116, 101]⟩ : ByteArray)] : List ByteArray))) else ((names_table.f k a0).bind fun t306 => (if t306 = true then (some (([(⟨#[116, 97, 98, 108, 101]⟩ : ByteArray), (⟨#[116, 101, 109, 112, 108, 97, 116, 101]⟩ : ByteArray)] : List ByteArray))) else (some (([(⟨#[98, 117, 116, 116, 111, 110]⟩ : ByteArray), (⟨#[99, 97, 112, 116, 105, 111, 110]⟩ : ByteArray), (⟨#[116, 97, 98, 108, 101]⟩ : ByteArray), (⟨#[116, 100]⟩ : ByteArray), (⟨#[116, 101, 109, 112, 108, 97, 116, 101]⟩ : ByteArray), (⟨#[116, 104]⟩ : ByteArray)] : List ByteArray)))))))))) = some r := h
 clear h
 by_cases c2 : a0.toList = ([108, 105] : List UInt8)
 ·rw [if_pos c2] at H
  have c2b0 : (a0.toList == ([108, 105] : List UInt8)) = true := beq_iff_eq.mpr c2
  have c2b1 : (a0.toList != ([108, 105] : List UInt8)) = false := bne_eq_false_iff_eq.mpr c2
  clear c2
  obtain ⟨y289, hy289⟩ : ∃ y_ : List ByteArray, y_ = (([(⟨#[109, 101, 110, 117]⟩ : ByteArray), (⟨#[111, 108]⟩ : ByteArray), (⟨#[116, 101, 109, 112, 108, 97, 116, 101]⟩ : ByteArray), (⟨#[117, 108]⟩ : ByteArray)] : List ByteArray)) := ⟨_, rfl⟩
  replace H : (some y289) = some r := by first | (rw [hy289]; with_reducible exact H) | (have H2_ := (Option.bind_some _ _).symm.trans H; rw [hy289]; with_reducible exact H2_) | (have H2_ := (Option.bind_some _ _).symm.trans H; with_reducible exact H2_) | with_reducible exact H | (rw [hy289]; exact H) | exact H
  have Ny289 := Aside0.mk hy289
  clear hy289
  obtain rfl := Option.some.inj H
  go_enter Tryd.func76, Tryd.ntmps76
  go_wp2_with (first | ((with_reducible refine gate_dst (N := 6) rfl ?_); refine Kd.R_lit Kd.string _ 9 ?hg (N := 6) ?hd (xs := ([(⟨#[109, 101, 110, 117]⟩ : ByteArray), (⟨#[111, 108]⟩ : ByteArray), (⟨#[116, 101, 109, 112, 108, 97, 116, 101]⟩ : ByteArray), (⟨#[117, 108]⟩ : ByteArray)] : List ByteArray)) (inner := [.string (⟨#[109, 101, 110, 117]⟩ : ByteArray), .string (⟨#[111, 108]⟩ : ByteArray), .string (⟨#[116, 101, 109, 112, 108, 97, 116, 101]⟩ : ByteArray), .string (⟨#[117, 108]⟩ : ByteArray)]) (ok := fun _ => True) (okp := fun _ => True) ?hr ?hp (fun _ hk => hk) trivial (Below.refl _ _) (Nat.le_refl _) (by simp) ?_; (case hd => rfl); (case hg => rfl); (case hr => first | (go_simp; done) | (go_simp; rfl)); (case hp => exact (Reps.one (show Kd.M Kd.string _ _ _ (⟨#[109, 101, 110, 117]⟩ : ByteArray) [.string (⟨#[109, 101, 110, 117]⟩ : ByteArray)] from rfl) (Reps.one (show Kd.M Kd.string _ _ _ (⟨#[111, 108]⟩ : ByteArray) [.string (⟨#[111, 108]⟩ : ByteArray)] from rfl) (Reps.one (show Kd.M Kd.string _ _ _ (⟨#[116, 101, 109, 112, 108, 97, 116, 101]⟩ : ByteArray) [.string (⟨#[116, 101, 109, 112, 108, 97, 116, 101]⟩ : ByteArray)] from rfl) (Reps.one (show Kd.M Kd.string _ _ _ (⟨#[117, 108]⟩ : ByteArray) [.string (⟨#[117, 108]⟩ : ByteArray)] from rfl) (Reps.none _ _)))))); intro v290 w3 ho4 hb hg_ hnew_; clear hg_ hnew_; (first | rw [← Ny289.out] at ho4 | (simp only [Int.reduceToNat] at ho4; rw [← Ny289.out] at ho4)); have n0_ := Aside0.mk (Kd.R_lower ho4 (below_size y14_)); have n1_ := Aside0.mk (below_step y14_ hb); clear HB; have HO291 := n0_; have HB := n1_; clear n0_ n1_; clear hb ho4))
  go_ret
  exact ⟨_, y13_, by (with_reducible repeat (first | apply Kd.R_alloc | apply Kd.R_drewN | apply Kd.R_drew)); exact HO291.out, y14_⟩
 ·rw [if_neg c2] at H
  have c2b0 : (a0.toList == ([108, 105] : List UInt8)) = false := beq_eq_false_iff_ne.mpr c2
  have c2b1 : (a0.toList != ([108, 105] : List UInt8)) = true := bne_iff_ne.mpr c2
  obtain ⟨y292, hy292⟩ : ∃ y_ : List ByteArray, y_ = (([(⟨#[100, 100]⟩ : ByteArray), (⟨#[100, 116]⟩ : ByteArray)] : List ByteArray)) := ⟨_, rfl⟩
  replace H : ((names_among.f k a0 y292).bind fun t295 => (if t295 = true then (some (([(⟨#[100, 108]⟩ : ByteArray), (⟨#[116, 101, 109, 112, 108, 97, 116, 101]⟩ : ByteArray)] : List ByteArray))) else ((names_among.f k a0 (([(⟨#[111, 112, 116, 105, 111, 110]⟩ : ByteArray), (⟨#[111, 112, 116, 103, 114, 111, 117, 112]⟩ : ByteArray)] : List ByteArray))).bind fun t302 => (if t302 = true then (some (([(⟨#[115, 101, 108, 101, 99, 116]⟩ : ByteArray), (⟨#[116, 101, 109, 112, 108, 97, 116, 101]⟩ : ByteArray)] : List ByteArray))) else ((names_table.f k a0).bind fun t306 => (if t306 = true then (some (([(⟨#[116, 97, 98, 108, 101]⟩ : ByteArray), (⟨#[116, 101, 109, 112, 108, 97, 116, 101]⟩ : ByteArray)] : List ByteArray))) else (some (([(⟨#[98, 117, 116, 116, 111, 110]⟩ : ByteArray), (⟨#[99, 97, 112, 116, 105, 111, 110]⟩ : ByteArray), (⟨#[116, 97, 98, 108, 101]⟩ : ByteArray), (⟨#[116, 100]⟩ : ByteArray), (⟨#[116, 101, 109, 112, 108, 97, 116, 101]⟩ : ByteArray), (⟨#[116, 104]⟩ : ByteArray)] : List ByteArray))))))))) = some r := by first | (rw [hy292]; with_reducible exact H) | (have H2_ := (Option.bind_some _ _).symm.trans H; rw [hy292]; with_reducible exact H2_) | (have H2_ := (Option.bind_some _ _).symm.trans H; with_reducible exact H2_) | with_reducible exact H | (rw [hy292]; exact H) | exact H
  have Ny292 := Aside0.mk hy292
  clear hy292
  replace H := Option.bind_eq_some_iff.mp H
  obtain ⟨t295, A50, H⟩ := H
  have A5 := Aside0.mk A50
  clear A50
  by_cases c6 : t295 = true
  ·subst c6
   rw [if_pos rfl] at H
   obtain ⟨y296, hy296⟩ : ∃ y_ : List ByteArray, y_ = (([(⟨#[100, 108]⟩ : ByteArray), (⟨#[116, 101, 109, 112, 108, 97, 116, 101]⟩ : ByteArray)] : List ByteArray)) := ⟨_, rfl⟩
   replace H : (some y296) = some r := by first | (rw [hy296]; with_reducible exact H) | (have H2_ := (Option.bind_some _ _).symm.trans H; rw [hy296]; with_reducible exact H2_) | (have H2_ := (Option.bind_some _ _).symm.trans H; with_reducible exact H2_) | with_reducible exact H | (rw [hy296]; exact H) | exact H
   have Ny296 := Aside0.mk hy296
   clear hy296
   obtain rfl := Option.some.inj H
   go_enter Tryd.func76, Tryd.ntmps76
   go_wp2_with (first | ((with_reducible refine gate_dst (N := 9) rfl ?_); refine Kd.R_lit Kd.string _ 9 ?hg (N := 9) ?hd (xs := ([(⟨#[100, 100]⟩ : ByteArray), (⟨#[100, 116]⟩ : ByteArray)] : List ByteArray)) (inner := [.string (⟨#[100, 100]⟩ : ByteArray), .string (⟨#[100, 116]⟩ : ByteArray)]) (ok := fun _ => True) (okp := fun _ => True) ?hr ?hp (fun _ hk => hk) trivial (Below.refl _ _) (Nat.le_refl _) (by simp) ?_; (case hd => rfl); (case hg => rfl); (case hr => first | (go_simp; done) | (go_simp; rfl)); (case hp => exact (Reps.one (show Kd.M Kd.string _ _ _ (⟨#[100, 100]⟩ : ByteArray) [.string (⟨#[100, 100]⟩ : ByteArray)] from rfl) (Reps.one (show Kd.M Kd.string _ _ _ (⟨#[100, 116]⟩ : ByteArray) [.string (⟨#[100, 116]⟩ : ByteArray)] from rfl) (Reps.none _ _)))); intro v293 w7 ho8 hb hg_ hnew_; clear hg_ hnew_; (first | rw [← Ny292.out] at ho8 | (simp only [Int.reduceToNat] at ho8; rw [← Ny292.out] at ho8)); have n0_ := Aside0.mk (Kd.R_lower ho8 (below_size y14_)); have n1_ := Aside0.mk (below_step y14_ hb); clear HB; have HO294 := n0_; have HB := n1_; clear n0_ n1_; clear hb ho8; obtain ⟨Ao9, co9, eo9⟩ := Kd.R_slice HO294.out; subst eo9) | ((with_reducible refine gate_callee (f := 42) rfl ?_); refine goesL_ (some 10) rfl rfl Tryd.func42 (by kernel_rfl) rfl #[.string a0, .slice Ao9 y292.length co9] rfl y15_ ?_; (with_reducible refine (names_among.calls k a0 _ _ y292 true _ ?side1 ?side2 A5.out).mono ?_); (case side1 => repeat (first | exact (Kd.R_reads' HO294.out).2.2 | (with_reducible refine Kd.C_alloc ?_ _) | (with_reducible refine Kd.C_drewN ?_ _) | (with_reducible refine Kd.C_drew ?_))); (case side2 => exact (Kd.R_reads' HO294.out).2.1); rintro e w' ⟨rfl, ⟨nd, rfl⟩⟩; refine ⟨_, rfl, ?_⟩) | ((with_reducible refine gate_dst (N := 11) rfl ?_); refine Kd.R_lit Kd.string _ 9 ?hg (N := 11) ?hd (xs := ([(⟨#[100, 108]⟩ : ByteArray), (⟨#[116, 101, 109, 112, 108, 97, 116, 101]⟩ : ByteArray)] : List ByteArray)) (inner := [.string (⟨#[100, 108]⟩ : ByteArray), .string (⟨#[116, 101, 109, 112, 108, 97, 116, 101]⟩ : ByteArray)]) (ok := fun _ => True) (okp := fun _ => True) ?hr ?hp (fun _ hk => hk) trivial (Below.refl _ _) (Nat.le_refl _) (by simp) ?_; (case hd => rfl); (case hg => rfl); (case hr => first | (go_simp; done) | (go_simp; rfl)); (case hp => exact (Reps.one (show Kd.M Kd.string _ _ _ (⟨#[100, 108]⟩ : ByteArray) [.string (⟨#[100, 108]⟩ : ByteArray)] from rfl) (Reps.one (show Kd.M Kd.string _ _ _ (⟨#[116, 101, 109, 112, 108, 97, 116, 101]⟩ : ByteArray) [.string (⟨#[116, 101, 109, 112, 108, 97, 116, 101]⟩ : ByteArray)] from rfl) (Reps.none _ _)))); intro v297 w10 ho11 hb hg_ hnew_; clear hg_ hnew_; (first | rw [← Ny296.out] at ho11 | (simp only [Int.reduceToNat] at ho11; rw [← Ny296.out] at ho11)); have n0_ := Aside0.mk (Kd.R_elder' (y8_ HO294.out) (Kd.R_base ho11) hb); have n1_ := Aside0.mk (Kd.R_lower (Kd.R_new' ho11 (Kd.R_lt (y8_ HO294.out))) (below_size y14_)); have n2_ := Aside0.mk (below_step y14_ hb); clear HO294; clear HB; have HO294 := n0_; have HO298 := n1_; have HB := n2_; clear n0_ n1_ n2_; clear hb ho11))
   go_ret
   exact ⟨_, y13_, by (with_reducible repeat (first | apply Kd.R_alloc | apply Kd.R_drewN | apply Kd.R_drew)); exact Kd.R_mono HO298.out (fun _ hk => trivial), y14_⟩
  ·replace c6 := Bool.eq_false_iff.mpr c6
   subst c6
   rw [if_neg (show ¬ (false = true) by decide)] at H
   obtain ⟨y299, hy299⟩ : ∃ y_ : List ByteArray, y_ = (([(⟨#[111, 112, 116, 105, 111, 110]⟩ : ByteArray), (⟨#[111, 112, 116, 103, 114, 111, 117, 112]⟩ : ByteArray)] : List ByteArray)) := ⟨_, rfl⟩
   replace H : ((names_among.f k a0 y299).bind fun t302 => (if t302 = true then (some (([(⟨#[115, 101, 108, 101, 99, 116]⟩ : ByteArray), (⟨#[116, 101, 109, 112, 108, 97, 116, 101]⟩ : ByteArray)] : List ByteArray))) else ((names_table.f k a0).bind fun t306 => (if t306 = true then (some (([(⟨#[116, 97, 98, 108, 101]⟩ : ByteArray), (⟨#[116, 101, 109, 112, 108, 97, 116, 101]⟩ : ByteArray)] : List ByteArray))) else (some (([(⟨#[98, 117, 116, 116, 111, 110]⟩ : ByteArray), (⟨#[99, 97, 112, 116, 105, 111, 110]⟩ : ByteArray), (⟨#[116, 97, 98, 108, 101]⟩ : ByteArray), (⟨#[116, 100]⟩ : ByteArray), (⟨#[116, 101, 109, 112, 108, 97, 116, 101]⟩ : ByteArray), (⟨#[116, 104]⟩ : ByteArray)] : List ByteArray))))))) = some r := by first | (rw [hy299]; with_reducible exact H) | (have H2_ := (Option.bind_some _ _).symm.trans H; rw [hy299]; with_reducible exact H2_) | (have H2_ := (Option.bind_some _ _).symm.trans H; with_reducible exact H2_) | with_reducible exact H | (rw [hy299]; exact H) | exact H
   have Ny299 := Aside0.mk hy299
   clear hy299
   replace H := Option.bind_eq_some_iff.mp H
   obtain ⟨t302, A120, H⟩ := H
   have A12 := Aside0.mk A120
   clear A120
   by_cases c13 : t302 = true
   ·subst c13
    rw [if_pos rfl] at H
    obtain ⟨y303, hy303⟩ : ∃ y_ : List ByteArray, y_ = (([(⟨#[115, 101, 108, 101, 99, 116]⟩ : ByteArray), (⟨#[116, 101, 109, 112, 108, 97, 116, 101]⟩ : ByteArray)] : List ByteArray)) := ⟨_, rfl⟩
    replace H : (some y303) = some r := by first | (rw [hy303]; with_reducible exact H) | (have H2_ := (Option.bind_some _ _).symm.trans H; rw [hy303]; with_reducible exact H2_) | (have H2_ := (Option.bind_some _ _).symm.trans H; with_reducible exact H2_) | with_reducible exact H | (rw [hy303]; exact H) | exact H
    have Ny303 := Aside0.mk hy303
    clear hy303
    obtain rfl := Option.some.inj H
    go_enter Tryd.func76, Tryd.ntmps76
    go_wp2_with (first | ((with_reducible refine gate_dst (N := 9) rfl ?_); refine Kd.R_lit Kd.string _ 9 ?hg (N := 9) ?hd (xs := ([(⟨#[100, 100]⟩ : ByteArray), (⟨#[100, 116]⟩ : ByteArray)] : List ByteArray)) (inner := [.string (⟨#[100, 100]⟩ : ByteArray), .string (⟨#[100, 116]⟩ : ByteArray)]) (ok := fun _ => True) (okp := fun _ => True) ?hr ?hp (fun _ hk => hk) trivial (Below.refl _ _) (Nat.le_refl _) (by simp) ?_; (case hd => rfl); (case hg => rfl); (case hr => first | (go_simp; done) | (go_simp; rfl)); (case hp => exact (Reps.one (show Kd.M Kd.string _ _ _ (⟨#[100, 100]⟩ : ByteArray) [.string (⟨#[100, 100]⟩ : ByteArray)] from rfl) (Reps.one (show Kd.M Kd.string _ _ _ (⟨#[100, 116]⟩ : ByteArray) [.string (⟨#[100, 116]⟩ : ByteArray)] from rfl) (Reps.none _ _)))); intro v293 w14 ho15 hb hg_ hnew_; clear hg_ hnew_; (first | rw [← Ny292.out] at ho15 | (simp only [Int.reduceToNat] at ho15; rw [← Ny292.out] at ho15)); have n0_ := Aside0.mk (Kd.R_lower ho15 (below_size y14_)); have n1_ := Aside0.mk (below_step y14_ hb); clear HB; have HO294 := n0_; have HB := n1_; clear n0_ n1_; clear hb ho15; obtain ⟨Ao16, co16, eo16⟩ := Kd.R_slice HO294.out; subst eo16) | ((with_reducible refine gate_callee (f := 42) rfl ?_); refine goesL_ (some 10) rfl rfl Tryd.func42 (by kernel_rfl) rfl #[.string a0, .slice Ao16 y292.length co16] rfl y15_ ?_; (with_reducible refine (names_among.calls k a0 _ _ y292 false _ ?side1 ?side2 A5.out).mono ?_); (case side1 => repeat (first | exact (Kd.R_reads' HO294.out).2.2 | (with_reducible refine Kd.C_alloc ?_ _) | (with_reducible refine Kd.C_drewN ?_ _) | (with_reducible refine Kd.C_drew ?_))); (case side2 => exact (Kd.R_reads' HO294.out).2.1); rintro e w' ⟨rfl, ⟨nd, rfl⟩⟩; refine ⟨_, rfl, ?_⟩) | ((with_reducible refine gate_dst (N := 14) rfl ?_); refine Kd.R_lit Kd.string _ 9 ?hg (N := 14) ?hd (xs := ([(⟨#[111, 112, 116, 105, 111, 110]⟩ : ByteArray), (⟨#[111, 112, 116, 103, 114, 111, 117, 112]⟩ : ByteArray)] : List ByteArray)) (inner := [.string (⟨#[111, 112, 116, 105, 111, 110]⟩ : ByteArray), .string (⟨#[111, 112, 116, 103, 114, 111, 117, 112]⟩ : ByteArray)]) (ok := fun _ => True) (okp := fun _ => True) ?hr ?hp (fun _ hk => hk) trivial (Below.refl _ _) (Nat.le_refl _) (by simp) ?_; (case hd => rfl); (case hg => rfl); (case hr => first | (go_simp; done) | (go_simp; rfl)); (case hp => exact (Reps.one (show Kd.M Kd.string _ _ _ (⟨#[111, 112, 116, 105, 111, 110]⟩ : ByteArray) [.string (⟨#[111, 112, 116, 105, 111, 110]⟩ : ByteArray)] from rfl) (Reps.one (show Kd.M Kd.string _ _ _ (⟨#[111, 112, 116, 103, 114, 111, 117, 112]⟩ : ByteArray) [.string (⟨#[111, 112, 116, 103, 114, 111, 117, 112]⟩ : ByteArray)] from rfl) (Reps.none _ _)))); intro v300 w17 ho18 hb hg_ hnew_; clear hg_ hnew_; (first | rw [← Ny299.out] at ho18 | (simp only [Int.reduceToNat] at ho18; rw [← Ny299.out] at ho18)); have n0_ := Aside0.mk (Kd.R_elder' (y8_ HO294.out) (Kd.R_base ho18) hb); have n1_ := Aside0.mk (Kd.R_lower (Kd.R_new' ho18 (Kd.R_lt (y8_ HO294.out))) (below_size y14_)); have n2_ := Aside0.mk (below_step y14_ hb); clear HO294; clear HB; have HO294 := n0_; have HO301 := n1_; have HB := n2_; clear n0_ n1_ n2_; clear hb ho18; obtain ⟨Ao19, co19, eo19⟩ := Kd.R_slice HO301.out; subst eo19) | ((with_reducible refine gate_callee (f := 42) rfl ?_); refine goesL_ (some 15) rfl rfl Tryd.func42 (by kernel_rfl) rfl #[.string a0, .slice Ao19 y299.length co19] rfl y15_ ?_; (with_reducible refine (names_among.calls k a0 _ _ y299 true _ ?side1 ?side2 A12.out).mono ?_); (case side1 => repeat (first | exact (Kd.R_reads' HO301.out).2.2 | (with_reducible refine Kd.C_alloc ?_ _) | (with_reducible refine Kd.C_drewN ?_ _) | (with_reducible refine Kd.C_drew ?_))); (case side2 => exact (Kd.R_reads' HO301.out).2.1); rintro e w' ⟨rfl, ⟨nd, rfl⟩⟩; refine ⟨_, rfl, ?_⟩) | ((with_reducible refine gate_dst (N := 16) rfl ?_); refine Kd.R_lit Kd.string _ 9 ?hg (N := 16) ?hd (xs := ([(⟨#[115, 101, 108, 101, 99, 116]⟩ : ByteArray), (⟨#[116, 101, 109, 112, 108, 97, 116, 101]⟩ : ByteArray)] : List ByteArray)) (inner := [.string (⟨#[115, 101, 108, 101, 99, 116]⟩ : ByteArray), .string (⟨#[116, 101, 109, 112, 108, 97, 116, 101]⟩ : ByteArray)]) (ok := fun _ => True) (okp := fun _ => True) ?hr ?hp (fun _ hk => hk) trivial (Below.refl _ _) (Nat.le_refl _) (by simp) ?_; (case hd => rfl); (case hg => rfl); (case hr => first | (go_simp; done) | (go_simp; rfl)); (case hp => exact (Reps.one (show Kd.M Kd.string _ _ _ (⟨#[115, 101, 108, 101, 99, 116]⟩ : ByteArray) [.string (⟨#[115, 101, 108, 101, 99, 116]⟩ : ByteArray)] from rfl) (Reps.one (show Kd.M Kd.string _ _ _ (⟨#[116, 101, 109, 112, 108, 97, 116, 101]⟩ : ByteArray) [.string (⟨#[116, 101, 109, 112, 108, 97, 116, 101]⟩ : ByteArray)] from rfl) (Reps.none _ _)))); intro v304 w20 ho21 hb hg_ hnew_; clear hg_ hnew_; (first | rw [← Ny303.out] at ho21 | (simp only [Int.reduceToNat] at ho21; rw [← Ny303.out] at ho21)); have n0_ := Aside0.mk (Kd.R_elder' (y8_ HO294.out) (Kd.R_base ho21) hb); have n1_ := Aside0.mk (Kd.R_elder' (y8_ HO301.out) (Kd.R_base ho21) hb); have n2_ := Aside0.mk (Kd.R_lower (Kd.R_new' (Kd.R_new' ho21 (Kd.R_lt (y8_ HO294.out))) (Kd.R_lt (y8_ HO301.out))) (below_size y14_)); have n3_ := Aside0.mk (below_step y14_ hb); clear HO294; clear HO301; clear HB; have HO294 := n0_; have HO301 := n1_; have HO305 := n2_; have HB := n3_; clear n0_ n1_ n2_ n3_; clear hb ho21))
    go_ret
    exact ⟨_, y13_, by (with_reducible repeat (first | apply Kd.R_alloc | apply Kd.R_drewN | apply Kd.R_drew)); exact Kd.R_mono HO305.out (fun _ hk => trivial), y14_⟩
   ·replace c13 := Bool.eq_false_iff.mpr c13
    subst c13
    rw [if_neg (show ¬ (false = true) by decide)] at H
    replace H := Option.bind_eq_some_iff.mp H
    obtain ⟨t306, A220, H⟩ := H
    have A22 := Aside0.mk A220
    clear A220
    by_cases c23 : t306 = true
    ·subst c23
     rw [if_pos rfl] at H
     obtain ⟨y307, hy307⟩ : ∃ y_ : List ByteArray, y_ = (([(⟨#[116, 97, 98, 108, 101]⟩ : ByteArray), (⟨#[116, 101, 109, 112, 108, 97, 116, 101]⟩ : ByteArray)] : List ByteArray)) := ⟨_, rfl⟩
     replace H : (some y307) = some r := by first | (rw [hy307]; with_reducible exact H) | (have H2_ := (Option.bind_some _ _).symm.trans H; rw [hy307]; with_reducible exact H2_) | (have H2_ := (Option.bind_some _ _).symm.trans H; with_reducible exact H2_) | with_reducible exact H | (rw [hy307]; exact H) | exact H
     have Ny307 := Aside0.mk hy307
     clear hy307
     obtain rfl := Option.some.inj H
     go_enter Tryd.func76, Tryd.ntmps76
     go_wp2_with (first | ((with_reducible refine gate_dst (N := 9) rfl ?_); refine Kd.R_lit Kd.string _ 9 ?hg (N := 9) ?hd (xs := ([(⟨#[100, 100]⟩ : ByteArray), (⟨#[100, 116]⟩ : ByteArray)] : List ByteArray)) (inner := [.string (⟨#[100, 100]⟩ : ByteArray), .string (⟨#[100, 116]⟩ : ByteArray)]) (ok := fun _ => True) (okp := fun _ => True) ?hr ?hp (fun _ hk => hk) trivial (Below.refl _ _) (Nat.le_refl _) (by simp) ?_; (case hd => rfl); (case hg => rfl); (case hr => first | (go_simp; done) | (go_simp; rfl)); (case hp => exact (Reps.one (show Kd.M Kd.string _ _ _ (⟨#[100, 100]⟩ : ByteArray) [.string (⟨#[100, 100]⟩ : ByteArray)] from rfl) (Reps.one (show Kd.M Kd.string _ _ _ (⟨#[100, 116]⟩ : ByteArray) [.string (⟨#[100, 116]⟩ : ByteArray)] from rfl) (Reps.none _ _)))); intro v293 w24 ho25 hb hg_ hnew_; clear hg_ hnew_; (first | rw [← Ny292.out] at ho25 | (simp only [Int.reduceToNat] at ho25; rw [← Ny292.out] at ho25)); have n0_ := Aside0.mk (Kd.R_lower ho25 (below_size y14_)); have n1_ := Aside0.mk (below_step y14_ hb); clear HB; have HO294 := n0_; have HB := n1_; clear n0_ n1_; clear hb ho25; obtain ⟨Ao26, co26, eo26⟩ := Kd.R_slice HO294.out; subst eo26) | ((with_reducible refine gate_callee (f := 42) rfl ?_); refine goesL_ (some 10) rfl rfl Tryd.func42 (by kernel_rfl) rfl #[.string a0, .slice Ao26 y292.length co26] rfl y15_ ?_; (with_reducible refine (names_among.calls k a0 _ _ y292 false _ ?side1 ?side2 A5.out).mono ?_); (case side1 => repeat (first | exact (Kd.R_reads' HO294.out).2.2 | (with_reducible refine Kd.C_alloc ?_ _) | (with_reducible refine Kd.C_drewN ?_ _) | (with_reducible refine Kd.C_drew ?_))); (case side2 => exact (Kd.R_reads' HO294.out).2.1); rintro e w' ⟨rfl, ⟨nd, rfl⟩⟩; refine ⟨_, rfl, ?_⟩) | ((with_reducible refine gate_dst (N := 14) rfl ?_); refine Kd.R_lit Kd.string _ 9 ?hg (N := 14) ?hd (xs := ([(⟨#[111, 112, 116, 105, 111, 110]⟩ : ByteArray), (⟨#[111, 112, 116, 103, 114, 111, 117, 112]⟩ : ByteArray)] : List ByteArray)) (inner := [.string (⟨#[111, 112, 116, 105, 111, 110]⟩ : ByteArray), .string (⟨#[111, 112, 116, 103, 114, 111, 117, 112]⟩ : ByteArray)]) (ok := fun _ => True) (okp := fun _ => True) ?hr ?hp (fun _ hk => hk) trivial (Below.refl _ _) (Nat.le_refl _) (by simp) ?_; (case hd => rfl); (case hg => rfl); (case hr => first | (go_simp; done) | (go_simp; rfl)); (case hp => exact (Reps.one (show Kd.M Kd.string _ _ _ (⟨#[111, 112, 116, 105, 111, 110]⟩ : ByteArray) [.string (⟨#[111, 112, 116, 105, 111, 110]⟩ : ByteArray)] from rfl) (Reps.one (show Kd.M Kd.string _ _ _ (⟨#[111, 112, 116, 103, 114, 111, 117, 112]⟩ : ByteArray) [.string (⟨#[111, 112, 116, 103, 114, 111, 117, 112]⟩ : ByteArray)] from rfl) (Reps.none _ _)))); intro v300 w27 ho28 hb hg_ hnew_; clear hg_ hnew_; (first | rw [← Ny299.out] at ho28 | (simp only [Int.reduceToNat] at ho28; rw [← Ny299.out] at ho28)); have n0_ := Aside0.mk (Kd.R_elder' (y8_ HO294.out) (Kd.R_base ho28) hb); have n1_ := Aside0.mk (Kd.R_lower (Kd.R_new' ho28 (Kd.R_lt (y8_ HO294.out))) (below_size y14_)); have n2_ := Aside0.mk (below_step y14_ hb); clear HO294; clear HB; have HO294 := n0_; have HO301 := n1_; have HB := n2_; clear n0_ n1_ n2_; clear hb ho28; obtain ⟨Ao29, co29, eo29⟩ := Kd.R_slice HO301.out; subst eo29) | ((with_reducible refine gate_callee (f := 42) rfl ?_); refine goesL_ (some 15) rfl rfl Tryd.func42 (by kernel_rfl) rfl #[.string a0, .slice Ao29 y299.length co29] rfl y15_ ?_; (with_reducible refine (names_among.calls k a0 _ _ y299 false _ ?side1 ?side2 A12.out).mono ?_); (case side1 => repeat (first | exact (Kd.R_reads' HO301.out).2.2 | (with_reducible refine Kd.C_alloc ?_ _) | (with_reducible refine Kd.C_drewN ?_ _) | (with_reducible refine Kd.C_drew ?_))); (case side2 => exact (Kd.R_reads' HO301.out).2.1); rintro e w' ⟨rfl, ⟨nd, rfl⟩⟩; refine ⟨_, rfl, ?_⟩) | ((with_reducible refine gate_callee (f := 93) rfl ?_); refine goesL_ (some 19) rfl rfl Tryd.func93 (by kernel_rfl) rfl #[.string a0] rfl y15_ ?_; (with_reducible refine (names_table.calls k a0 true _ A22.out).mono ?_); rintro e w30 ⟨rfl, hb⟩; refine ⟨_, rfl, ?_⟩; have n0_ := Aside0.mk (Kd.R_below (y8_ HO294.out) hb); have n1_ := Aside0.mk (Kd.R_below (y8_ HO301.out) hb); have n2_ := Aside0.mk (below_step y14_ hb); clear HO294; clear HO301; clear HB; have HO294 := n0_; have HO301 := n1_; have HB := n2_; clear n0_ n1_ n2_; (try clear hb); (try clear hb2); (try clear hk); (try clear hi)) | ((with_reducible refine gate_dst (N := 20) rfl ?_); refine Kd.R_lit Kd.string _ 9 ?hg (N := 20) ?hd (xs := ([(⟨#[116, 97, 98, 108, 101]⟩ : ByteArray), (⟨#[116, 101, 109, 112, 108, 97, 116, 101]⟩ : ByteArray)] : List ByteArray)) (inner := [.string (⟨#[116, 97, 98, 108, 101]⟩ : ByteArray), .string (⟨#[116, 101, 109, 112, 108, 97, 116, 101]⟩ : ByteArray)]) (ok := fun _ => True) (okp := fun _ => True) ?hr ?hp (fun _ hk => hk) trivial (Below.refl _ _) (Nat.le_refl _) (by simp) ?_; (case hd => rfl); (case hg => rfl); (case hr => first | (go_simp; done) | (go_simp; rfl)); (case hp => exact (Reps.one (show Kd.M Kd.string _ _ _ (⟨#[116, 97, 98, 108, 101]⟩ : ByteArray) [.string (⟨#[116, 97, 98, 108, 101]⟩ : ByteArray)] from rfl) (Reps.one (show Kd.M Kd.string _ _ _ (⟨#[116, 101, 109, 112, 108, 97, 116, 101]⟩ : ByteArray) [.string (⟨#[116, 101, 109, 112, 108, 97, 116, 101]⟩ : ByteArray)] from rfl) (Reps.none _ _)))); intro v308 w31 ho32 hb hg_ hnew_; clear hg_ hnew_; (first | rw [← Ny307.out] at ho32 | (simp only [Int.reduceToNat] at ho32; rw [← Ny307.out] at ho32)); have n0_ := Aside0.mk (Kd.R_elder' (y8_ HO294.out) (Kd.R_base ho32) hb); have n1_ := Aside0.mk (Kd.R_elder' (y8_ HO301.out) (Kd.R_base ho32) hb); have n2_ := Aside0.mk (Kd.R_lower (Kd.R_new' (Kd.R_new' ho32 (Kd.R_lt (y8_ HO294.out))) (Kd.R_lt (y8_ HO301.out))) (below_size y14_)); have n3_ := Aside0.mk (below_step y14_ hb); clear HO294; clear HO301; clear HB; have HO294 := n0_; have HO301 := n1_; have HO309 := n2_; have HB := n3_; clear n0_ n1_ n2_ n3_; clear hb ho32))
     go_ret
     exact ⟨_, y13_, by (with_reducible repeat (first | apply Kd.R_alloc | apply Kd.R_drewN | apply Kd.R_drew)); exact Kd.R_mono HO309.out (fun _ hk => trivial), y14_⟩
    ·replace c23 := Bool.eq_false_iff.mpr c23
     subst c23
     rw [if_neg (show ¬ (false = true) by decide)] at H
     obtain ⟨y310, hy310⟩ : ∃ y_ : List ByteArray, y_ = (([(⟨#[98, 117, 116, 116, 111, 110]⟩ : ByteArray), (⟨#[99, 97, 112, 116, 105, 111, 110]⟩ : ByteArray), (⟨#[116, 97, 98, 108, 101]⟩ : ByteArray), (⟨#[116, 100]⟩ : ByteArray), (⟨#[116, 101, 109, 112, 108, 97, 116, 101]⟩ : ByteArray), (⟨#[116, 104]⟩ : ByteArray)] : List ByteArray)) := ⟨_, rfl⟩
     replace H : (some y310) = some r := by first | (rw [hy310]; with_reducible exact H) | (have H2_ := (Option.bind_some _ _).symm.trans H; rw [hy310]; with_reducible exact H2_) | (have H2_ := (Option.bind_some _ _).symm.trans H; with_reducible exact H2_) | with_reducible exact H | (rw [hy310]; exact H) | exact H
     have Ny310 := Aside0.mk hy310
     clear hy310
     obtain rfl := Option.some.inj H
     go_enter Tryd.func76, Tryd.ntmps76
     go_wp2_with (first | ((with_reducible refine gate_dst (N := 9) rfl ?_); refine Kd.R_lit Kd.string _ 9 ?hg (N := 9) ?hd (xs := ([(⟨#[100, 100]⟩ : ByteArray), (⟨#[100, 116]⟩ : ByteArray)] : List ByteArray)) (inner := [.string (⟨#[100, 100]⟩ : ByteArray), .string (⟨#[100, 116]⟩ : ByteArray)]) (ok := fun _ => True) (okp := fun _ => True) ?hr ?hp (fun _ hk => hk) trivial (Below.refl _ _) (Nat.le_refl _) (by simp) ?_; (case hd => rfl); (case hg => rfl); (case hr => first | (go_simp; done) | (go_simp; rfl)); (case hp => exact (Reps.one (show Kd.M Kd.string _ _ _ (⟨#[100, 100]⟩ : ByteArray) [.string (⟨#[100, 100]⟩ : ByteArray)] from rfl) (Reps.one (show Kd.M Kd.string _ _ _ (⟨#[100, 116]⟩ : ByteArray) [.string (⟨#[100, 116]⟩ : ByteArray)] from rfl) (Reps.none _ _)))); intro v293 w33 ho34 hb hg_ hnew_; clear hg_ hnew_; (first | rw [← Ny292.out] at ho34 | (simp only [Int.reduceToNat] at ho34; rw [← Ny292.out] at ho34)); have n0_ := Aside0.mk (Kd.R_lower ho34 (below_size y14_)); have n1_ := Aside0.mk (below_step y14_ hb); clear HB; have HO294 := n0_; have HB := n1_; clear n0_ n1_; clear hb ho34; obtain ⟨Ao35, co35, eo35⟩ := Kd.R_slice HO294.out; subst eo35) | ((with_reducible refine gate_callee (f := 42) rfl ?_); refine goesL_ (some 10) rfl rfl Tryd.func42 (by kernel_rfl) rfl #[.string a0, .slice Ao35 y292.length co35] rfl y15_ ?_; (with_reducible refine (names_among.calls k a0 _ _ y292 false _ ?side1 ?side2 A5.out).mono ?_); (case side1 => repeat (first | exact (Kd.R_reads' HO294.out).2.2 | (with_reducible refine Kd.C_alloc ?_ _) | (with_reducible refine Kd.C_drewN ?_ _) | (with_reducible refine Kd.C_drew ?_))); (case side2 => exact (Kd.R_reads' HO294.out).2.1); rintro e w' ⟨rfl, ⟨nd, rfl⟩⟩; refine ⟨_, rfl, ?_⟩) | ((with_reducible refine gate_dst (N := 14) rfl ?_); refine Kd.R_lit Kd.string _ 9 ?hg (N := 14) ?hd (xs := ([(⟨#[111, 112, 116, 105, 111, 110]⟩ : ByteArray), (⟨#[111, 112, 116, 103, 114, 111, 117, 112]⟩ : ByteArray)] : List ByteArray)) (inner := [.string (⟨#[111, 112, 116, 105, 111, 110]⟩ : ByteArray), .string (⟨#[111, 112, 116, 103, 114, 111, 117, 112]⟩ : ByteArray)]) (ok := fun _ => True) (okp := fun _ => True) ?hr ?hp (fun _ hk => hk) trivial (Below.refl _ _) (Nat.le_refl _) (by simp) ?_; (case hd => rfl); (case hg => rfl); (case hr => first | (go_simp; done) | (go_simp; rfl)); (case hp => exact (Reps.one (show Kd.M Kd.string _ _ _ (⟨#[111, 112, 116, 105, 111, 110]⟩ : ByteArray) [.string (⟨#[111, 112, 116, 105, 111, 110]⟩ : ByteArray)] from rfl) (Reps.one (show Kd.M Kd.string _ _ _ (⟨#[111, 112, 116, 103, 114, 111, 117, 112]⟩ : ByteArray) [.string (⟨#[111, 112, 116, 103, 114, 111, 117, 112]⟩ : ByteArray)] from rfl) (Reps.none _ _)))); intro v300 w36 ho37 hb hg_ hnew_; clear hg_ hnew_; (first | rw [← Ny299.out] at ho37 | (simp only [Int.reduceToNat] at ho37; rw [← Ny299.out] at ho37)); have n0_ := Aside0.mk (Kd.R_elder' (y8_ HO294.out) (Kd.R_base ho37) hb); have n1_ := Aside0.mk (Kd.R_lower (Kd.R_new' ho37 (Kd.R_lt (y8_ HO294.out))) (below_size y14_)); have n2_ := Aside0.mk (below_step y14_ hb); clear HO294; clear HB; have HO294 := n0_; have HO301 := n1_; have HB := n2_; clear n0_ n1_ n2_; clear hb ho37; obtain ⟨Ao38, co38, eo38⟩ := Kd.R_slice HO301.out; subst eo38) | ((with_reducible refine gate_callee (f := 42) rfl ?_); refine goesL_ (some 15) rfl rfl Tryd.func42 (by kernel_rfl) rfl #[.string a0, .slice Ao38 y299.length co38] rfl y15_ ?_; (with_reducible refine (names_among.calls k a0 _ _ y299 false _ ?side1 ?side2 A12.out).mono ?_); (case side1 => repeat (first | exact (Kd.R_reads' HO301.out).2.2 | (with_reducible refine Kd.C_alloc ?_ _) | (with_reducible refine Kd.C_drewN ?_ _) | (with_reducible refine Kd.C_drew ?_))); (case side2 => exact (Kd.R_reads' HO301.out).2.1); rintro e w' ⟨rfl, ⟨nd, rfl⟩⟩; refine ⟨_, rfl, ?_⟩) | ((with_reducible refine gate_callee (f := 93) rfl ?_); refine goesL_ (some 19) rfl rfl Tryd.func93 (by kernel_rfl) rfl #[.string a0] rfl y15_ ?_; (with_reducible refine (names_table.calls k a0 false _ A22.out).mono ?_); rintro e w39 ⟨rfl, hb⟩; refine ⟨_, rfl, ?_⟩; have n0_ := Aside0.mk (Kd.R_below (y8_ HO294.out) hb); have n1_ := Aside0.mk (Kd.R_below (y8_ HO301.out) hb); have n2_ := Aside0.mk (below_step y14_ hb); clear HO294; clear HO301; clear HB; have HO294 := n0_; have HO301 := n1_; have HB := n2_; clear n0_ n1_ n2_; (try clear hb); (try clear hb2); (try clear hk); (try clear hi)) | ((with_reducible refine gate_dst (N := 21) rfl ?_); refine Kd.R_lit Kd.string _ 9 ?hg (N := 21) ?hd (xs := ([(⟨#[98, 117, 116, 116, 111, 110]⟩ : ByteArray), (⟨#[99, 97, 112, 116, 105, 111, 110]⟩ : ByteArray), (⟨#[116, 97, 98, 108, 101]⟩ : ByteArray), (⟨#[116, 100]⟩ : ByteArray), (⟨#[116, 101, 109, 112, 108, 97, 116, 101]⟩ : ByteArray), (⟨#[116, 104]⟩ : ByteArray)] : List ByteArray)) (inner := [.string (⟨#[98, 117, 116, 116, 111, 110]⟩ : ByteArray), .string (⟨#[99, 97, 112, 116, 105, 111, 110]⟩ : ByteArray), .string (⟨#[116, 97, 98, 108, 101]⟩ : ByteArray), .string (⟨#[116, 100]⟩ : ByteArray), .string (⟨#[116, 101, 109, 112, 108, 97, 116, 101]⟩ : ByteArray), .string (⟨#[116, 104]⟩ : ByteArray)]) (ok := fun _ => True) (okp := fun _ => True) ?hr ?hp (fun _ hk => hk) trivial (Below.refl _ _) (Nat.le_refl _) (by simp) ?_; (case hd => rfl); (case hg => rfl); (case hr => first | (go_simp; done) | (go_simp; rfl)); (case hp => exact (Reps.one (show Kd.M Kd.string _ _ _ (⟨#[98, 117, 116, 116, 111, 110]⟩ : ByteArray) [.string (⟨#[98, 117, 116, 116, 111, 110]⟩ : ByteArray)] from rfl) (Reps.one (show Kd.M Kd.string _ _ _ (⟨#[99, 97, 112, 116, 105, 111, 110]⟩ : ByteArray) [.string (⟨#[99, 97, 112, 116, 105, 111, 110]⟩ : ByteArray)] from rfl) (Reps.one (show Kd.M Kd.string _ _ _ (⟨#[116, 97, 98, 108, 101]⟩ : ByteArray) [.string (⟨#[116, 97, 98, 108, 101]⟩ : ByteArray)] from rfl) (Reps.one (show Kd.M Kd.string _ _ _ (⟨#[116, 100]⟩ : ByteArray) [.string (⟨#[116, 100]⟩ : ByteArray)] from rfl) (Reps.one (show Kd.M Kd.string _ _ _ (⟨#[116, 101, 109, 112, 108, 97, 116, 101]⟩ : ByteArray) [.string (⟨#[116, 101, 109, 112, 108, 97, 116, 101]⟩ : ByteArray)] from rfl) (Reps.one (show Kd.M Kd.string _ _ _ (⟨#[116, 104]⟩ : ByteArray) [.string (⟨#[116, 104]⟩ : ByteArray)] from rfl) (Reps.none _ _)))))))); intro v311 w40 ho41 hb hg_ hnew_; clear hg_ hnew_; (first | rw [← Ny310.out] at ho41 | (simp only [Int.reduceToNat] at ho41; rw [← Ny310.out] at ho41)); have n0_ := Aside0.mk (Kd.R_elder' (y8_ HO294.out) (Kd.R_base ho41) hb); have n1_ := Aside0.mk (Kd.R_elder' (y8_ HO301.out) (Kd.R_base ho41) hb); have n2_ := Aside0.mk (Kd.R_lower (Kd.R_new' (Kd.R_new' ho41 (Kd.R_lt (y8_ HO294.out))) (Kd.R_lt (y8_ HO301.out))) (below_size y14_)); have n3_ := Aside0.mk (below_step y14_ hb); clear HO294; clear HO301; clear HB; have HO294 := n0_; have HO301 := n1_; have HO312 := n2_; have HB := n3_; clear n0_ n1_ n2_ n3_; clear hb ho41))
     go_ret
     exact ⟨_, y13_, by (with_reducible repeat (first | apply Kd.R_alloc | apply Kd.R_drewN | apply Kd.R_drew)); exact Kd.R_mono HO312.out (fun _ hk => trivial), y14_⟩
end Go.Proofs.YtpnhjipaeggcpaaDoor.X
end
section
namespace Go.Proofs.YtpnhjipaeggcpaaDoor.X
open Go.RowKit Go.Proofs.YtpnhjipaeggcpaaDoorW.PrintWords Go.Proofs.YtpnhjipaeggcpaaDoorW.PrintLast Go.Proofs.YtpnhjipaeggcpaaDoorW.PrintMore
attribute [local go_sem] max2_int min2_int max_two min_two max_three min_three max_four min_four
def names_Block.f (k : Nat) (a0 : ByteArray) : Option (Bool) := (names_among.f k a0 (([(⟨#[97, 100, 100, 114, 101, 115, 115]⟩ : ByteArray), (⟨#[97, 114, 116, 105, 99, 108, 101]⟩ : ByteArray), (⟨#[97, 115, 105, 100, 101]⟩ : ByteArray), (⟨#[98, 108, 111, 99, 107, 113, 117, 111, 116, 101]⟩ : ByteArray), (⟨#[99, 101, 110, 116, 101, 114]⟩ : ByteArray), (⟨#[100, 100]⟩ : ByteArray), (⟨#[100, 101, 116, 97, 105, 108, 115]⟩ : ByteArray), (⟨#[100, 105, 97, 108, 111, 103]⟩ : ByteArray), (⟨#[100, 105, 114]⟩ : ByteArray), (⟨#[100, 105, 118]⟩ : ByteArray), (⟨#[100, 108]⟩ : ByteArray), (⟨#[100, 116]⟩ : ByteArray), (⟨#[102, 105, 101, 108, 100, 115, 101, 116]⟩ : ByteArray), (⟨#[102, 105, 103, 99, 97, 112, 116, 105, 111, 110]⟩ : ByteArray), (⟨#[102, 105, 103, 117, 114, 101]⟩ : ByteArray), (⟨#[102, 111, 111, 116, 101, 114]⟩ : ByteArray), (⟨#[102, 111, 114, 109]⟩ : ByteArray), (⟨#[104, 49]⟩ : ByteArray), (⟨#[104, 50]⟩ : ByteArray), (⟨#[104, 51]⟩ : ByteArray), (⟨#[104, 52]⟩ : ByteArray), (⟨#[104, 53]⟩ : ByteArray), (⟨#[104, 54]⟩ : ByteArray), (⟨#[104, 101, 97, 100, 101, 114]⟩ : ByteArray), (⟨#[104, 103, 114, 111, 117, 112]⟩ : ByteArray), (⟨#[104, 114]⟩ : ByteArray), (⟨#[108, 105]⟩ : ByteArray), (⟨#[109, 97, 105, 110]⟩ : ByteArray), (⟨#[109, 101, 110, 117]⟩ : ByteArray), (⟨#[110, 97, 118]⟩ : ByteArray), (⟨#[111, 108]⟩ : ByteArray), (⟨#[112]⟩ : ByteArray), (⟨#[112, 114, 101]⟩ : ByteArray), (⟨#[115, 101, 99, 116, 105, 111, 110]⟩ : ByteArray), (⟨#[115, 117, 109, 109, 97, 114, 121]⟩ : ByteArray), (⟨#[116, 97, 98, 108, 101]⟩ : ByteArray), (⟨#[117, 108]⟩ : ByteArray), (⟨#[120, 109, 112]⟩ : ByteArray)] : List ByteArray))).bind fun t316 => (some t316)
theorem names_Block.mono : ∀ a0 k, LeO (names_Block.f k a0) (names_Block.f (k + 1) a0) := by
 intro a0 k
 unfold names_Block.f
 repeat' first
   | (with_reducible exact names_among.mono _ _ _)
   | (with_reducible exact LeO.refl _)
   | (with_reducible exact LeO.none _)
   | (with_reducible refine LeO.ite ?_ ?_)
   | (with_reducible refine LeO.bind ?_ (fun _ => ?_))
   | exact names_among.mono _ _ _
   | exact LeO.none _
   | refine LeO.ite ?_ ?_
   | refine LeO.bind ?_ (fun _ => ?_)
set_option maxHeartbeats 8000000 in
set_option maxRecDepth 100000 in
theorem names_Block.calls (k : Nat) (a0 : ByteArray) (r : Bool) (w : World) (h : names_Block.f k a0 = some r) :
  Calls Tryd.prog 94 #[.string a0] w fun e w' => e = .returned (.bool r) ∧ Below w.heap.size w w' := by
 have HB := Aside0.mk (Below.refl w.heap.size w)
 have H : ((names_among.f k a0 (([(⟨#[97, 100, 100, 114, 101, 115, 115]⟩ : ByteArray), (⟨#[97, 114, 116, 105, 99, 108, 101]⟩ : ByteArray), (⟨#[97, 115, 105, 100, 101]⟩ : ByteArray), (⟨#[98, 108, 111, 99, 107, 113, 117, 111, 116, 101]⟩ : ByteArray), (⟨#[99, 101, 110, 116, 101, 114]⟩ : ByteArray), (⟨#[100, 100]⟩ : ByteArray), (⟨#[100, 101, 116, 97, 105, 108, 115]⟩ : ByteArray), (⟨#[100, 105, 97, 108, 111, 103]⟩ : ByteArray), (⟨#[100, 105, 114]⟩ : ByteArray), (⟨#[100, 105, 118]⟩ : ByteArray), (⟨#[100, 108]⟩ : ByteArray), (⟨#[100, 116]⟩ : ByteArray), (⟨#[102, 105, 101, 108, 100, 115, 101, 116]⟩ : ByteArray), (⟨#[102, 105, 103, 99, 97, 112, 116, 105, 111, 110]⟩ : ByteArray), (⟨#[102, 105, 103, 117, 114, 101]⟩ : ByteArray), (⟨#[102, 111, 111, 116, 101, 114]⟩ : ByteArray), (⟨#[102, 111, 114, 109]⟩ : ByteArray), (⟨#[104, 49]⟩ : ByteArray), (⟨#[104, 50]⟩ : ByteArray), (⟨#[104, 51]⟩ : ByteArray), (⟨#[104, 52]⟩ : ByteArray), (⟨#[104, 53]⟩ : ByteArray), (⟨#[104, 54]⟩ : ByteArray), (⟨#[104, 101, 97, 100, 101, 114]⟩ : ByteArray), (⟨#[104, 103, 114, 111, 117, 112]⟩ : ByteArray), (⟨#[104, 114]⟩ : ByteArray), (⟨#[108, 105]⟩ : ByteArray), (⟨#[109, 97, 105, 110]⟩ : ByteArray), (⟨#[109, 101, 110, 117]⟩ : ByteArray), (⟨#[110, 97, 118]⟩ : ByteArray), (⟨#[111, 108]⟩ : ByteArray), (⟨#[112]⟩ : ByteArray), (⟨#[112, 114, 101]⟩ : ByteArray), (⟨#[115, 101, 99, 116, 105, 111, 110]⟩ : ByteArray), (⟨#[115, 117, 109, 109, 97, 114, 121]⟩ : ByteArray), (⟨#[116, 97, 98, 108, 101]⟩ : ByteArray), (⟨#[117, 108]⟩ : ByteArray), (⟨#[120, 109, 112]⟩ : ByteArray)] : List ByteArray))).bind fun t316 => (some t316)) = some r := h
 clear h
 obtain ⟨y313, hy313⟩ : ∃ y_ : List ByteArray, y_ = (([(⟨#[97, 100, 100, 114, 101, 115, 115]⟩ : ByteArray), (⟨#[97, 114, 116, 105, 99, 108, 101]⟩ : ByteArray), (⟨#[97, 115, 105, 100, 101]⟩ : ByteArray), (⟨#[98, 108, 111, 99, 107, 113, 117, 111, 116, 101]⟩ : ByteArray), (⟨#[99, 101, 110, 116, 101, 114]⟩ : ByteArray), (⟨#[100, 100]⟩ : ByteArray), (⟨#[100, 101, 116, 97, 105, 108, 115]⟩ : ByteArray), (⟨#[100, 105, 97, 108, 111, 103]⟩ : ByteArray), (⟨#[100, 105, 114]⟩ : ByteArray), (⟨#[100, 105, 118]⟩ : ByteArray), (⟨#[100, 108]⟩ : ByteArray), (⟨#[100, 116]⟩ : ByteArray), (⟨#[102, 105, 101, 108, 100, 115, 101, 116]⟩ : ByteArray), (⟨#[102, 105, 103, 99, 97, 112, 116, 105, 111, 110]⟩ : ByteArray), (⟨#[102, 105, 103, 117, 114, 101]⟩ : ByteArray), (⟨#[102, 111, 111, 116, 101, 114]⟩ : ByteArray), (⟨#[102, 111, 114, 109]⟩ : ByteArray), (⟨#[104, 49]⟩ : ByteArray), (⟨#[104, 50]⟩ : ByteArray), (⟨#[104, 51]⟩ : ByteArray), (⟨#[104, 52]⟩ : ByteArray), (⟨#[104, 53]⟩ : ByteArray), (⟨#[104, 54]⟩ : ByteArray), (⟨#[104, 101, 97, 100, 101, 114]⟩ : ByteArray), (⟨#[104, 103, 114, 111, 117, 112]⟩ : ByteArray), (⟨#[104, 114]⟩ : ByteArray), (⟨#[108, 105]⟩ : ByteArray), (⟨#[109, 97, 105, 110]⟩ : ByteArray), (⟨#[109, 101, 110, 117]⟩ : ByteArray), (⟨#[110, 97, 118]⟩ : ByteArray), (⟨#[111, 108]⟩ : ByteArray), (⟨#[112]⟩ : ByteArray), (⟨#[112, 114, 101]⟩ : ByteArray), (⟨#[115, 101, 99, 116, 105, 111, 110]⟩ : ByteArray), (⟨#[115, 117, 109, 109, 97, 114, 121]⟩ : ByteArray), (⟨#[116, 97, 98, 108, 101]⟩ : ByteArray), (⟨#[117, 108]⟩ : ByteArray), (⟨#[120, 109, 112]⟩ : ByteArray)] : List ByteArray)) := ⟨_, rfl⟩
 replace H : ((names_among.f k a0 y313).bind fun t316 => (some t316)) = some r := by first | (rw [hy313]; with_reducible exact H) | (have H2_ := (Option.bind_some _ _).symm.trans H; rw [hy313]; with_reducible exact H2_) | (have H2_ := (Option.bind_some _ _).symm.trans H; with_reducible exact H2_) | with_reducible exact H | (rw [hy313]; exact H) | exact H
 have Ny313 := Aside0.mk hy313
 clear hy313
 replace H := Option.bind_eq_some_iff.mp H
 obtain ⟨t316, A20, H⟩ := H
 have A2 := Aside0.mk A20
 clear A20
 obtain rfl := Option.some.inj H
 go_enter Tryd.func94, Tryd.ntmps94
 go_wp2_with (first | ((with_reducible refine gate_dst (N := 4) rfl ?_); refine Kd.R_lit Kd.string _ 9 ?hg (N := 4) ?hd (xs := ([(⟨#[97, 100, 100, 114, 101, 115, 115]⟩ : ByteArray), (⟨#[97, 114, 116, 105, 99, 108, 101]⟩ : ByteArray), (⟨#[97, 115, 105, 100, 101]⟩ : ByteArray), (⟨#[98, 108, 111, 99, 107, 113, 117, 111, 116, 101]⟩ : ByteArray), (⟨#[99, 101, 110, 116, 101, 114]⟩ : ByteArray), (⟨#[100, 100]⟩ : ByteArray), (⟨#[100, 101, 116, 97, 105, 108, 115]⟩ : ByteArray), (⟨#[100, 105, 97, 108, 111, 103]⟩ : ByteArray), (⟨#[100, 105, 114]⟩ : ByteArray), (⟨#[100, 105, 118]⟩ : ByteArray), (⟨#[100, 108]⟩ : ByteArray), (⟨#[100, 116]⟩ : ByteArray), (⟨#[102, 105, 101, 108, 100, 115, 101, 116]⟩ : ByteArray), (⟨#[102, 105, 103, 99, 97, 112, 116, 105, 111, 110]⟩ : ByteArray), (⟨#[102, 105, 103, 117, 114, 101]⟩ : ByteArray), (⟨#[102, 111, 111, 116, 101, 114]⟩ : ByteArray), (⟨#[102, 111, 114, 109]⟩ : ByteArray), (⟨#[104, 49]⟩ : ByteArray), (⟨#[104, 50]⟩ : ByteArray), (⟨#[104, 51]⟩ : ByteArray), (⟨#[104, 52]⟩ : ByteArray), (⟨#[104, 53]⟩ : ByteArray), (⟨#[104, 54]⟩ : ByteArray), (⟨#[104, 101, 97, 100, 101, 114]⟩ : ByteArray), (⟨#[104, 103, 114, 111, 117, 112]⟩ : ByteArray), (⟨#[104, 114]⟩ : ByteArray), (⟨#[108, 105]⟩ : ByteArray), (⟨#[109, 97, 105, 110]⟩ : ByteArray), (⟨#[109, 101, 110, 117]⟩ : ByteArray), (⟨#[110, 97, 118]⟩ : ByteArray), (⟨#[111, 108]⟩ : ByteArray), (⟨#[112]⟩ : ByteArray), (⟨#[112, 114, 101]⟩ : ByteArray), (⟨#[115, 101, 99, 116, 105, 111, 110]⟩ : ByteArray), (⟨#[115, 117, 109, 109, 97, 114, 121]⟩ : ByteArray), (⟨#[116, 97, 98, 108, 101]⟩ : ByteArray), (⟨#[117, 108]⟩ : ByteArray), (⟨#[120, 109, 112]⟩ : ByteArray)] : List ByteArray)) (inner := [.string (⟨#[97, 100, 100, 114, 101, 115, 115]⟩ : ByteArray), .string (⟨#[97, 114, 116, 105, 99, 108, 101]⟩ : ByteArray), .string (⟨#[97, 115, 105, 100, 101]⟩ : ByteArray), .string (⟨#[98, 108, 111, 99, 107, 113, 117, 111, 116, 101]⟩ : ByteArray), .string (⟨#[99, 101, 110, 116, 101, 114]⟩ : ByteArray), .string (⟨#[100, 100]⟩ : ByteArray), .string (⟨#[100, 101, 116, 97, 105, 108, 115]⟩ : ByteArray), .string (⟨#[100, 105, 97, 108, 111, 103]⟩ : ByteArray), .string (⟨#[100, 105, 114]⟩ : ByteArray), .string (⟨#[100, 105, 118]⟩ : ByteArray), .string (⟨#[100, 108]⟩ : ByteArray), .string (⟨#[100, 116]⟩ : ByteArray), .string (⟨#[102, 105, 101, 108, 100, 115, 101, 116]⟩ : ByteArray), .string (⟨#[102, 105, 103, 99, 97, 112, 116, 105, 111, 110]⟩ : ByteArray), .string (⟨#[102, 105, 103, 117, 114, 101]⟩ : ByteArray), .string (⟨#[102, 111, 111, 116, 101, 114]⟩ : ByteArray), .string (⟨#[102, 111, 114, 109]⟩ : ByteArray), .string (⟨#[104, 49]⟩ : ByteArray), .string (⟨#[104, 50]⟩ : ByteArray), .string (⟨#[104, 51]⟩ : ByteArray), .string (⟨#[104, 52]⟩ : ByteArray), .string (⟨#[104, 53]⟩ : ByteArray), .string (⟨#[104, 54]⟩ : ByteArray), .string (⟨#[104, 101, 97, 100, 101, 114]⟩ : ByteArray), .string (⟨#[104, 103, 114, 111, 117, 112]⟩ : ByteArray), .string (⟨#[104, 114]⟩ : ByteArray), .string (⟨#[108, 105]⟩ : ByteArray), .string (⟨#[109, 97, 105, 110]⟩ : ByteArray), .string (⟨#[109, 101, 110, 117]⟩ : ByteArray), .string (⟨#[110, 97, 118]⟩ : ByteArray), .string (⟨#[111, 108]⟩ : ByteArray), .string (⟨#[112]⟩ : ByteArray), .string (⟨#[112, 114, 101]⟩ : ByteArray), .string (⟨#[115, 101, 99, 116, 105, 111, 110]⟩ : ByteArray), .string (⟨#[115, 117, 109, 109, 97, 114, 121]⟩ : ByteArray), .string (⟨#[116, 97, 98, 108, 101]⟩ : ByteArray), .string (⟨#[117, 108]⟩ : ByteArray), .string (⟨#[120, 109, 112]⟩ : ByteArray)]) (ok := fun _ => True) (okp := fun _ => True) ?hr ?hp (fun _ hk => hk) trivial (Below.refl _ _) (Nat.le_refl _) (by simp) ?_; (case hd => rfl); (case hg => rfl); (case hr => first | (go_simp; done) | (go_simp; rfl)); (case hp => exact (Reps.one (show Kd.M Kd.string _ _ _ (⟨#[97, 100, 100, 114, 101, 115, 115]⟩ : ByteArray) [.string (⟨#[97, 100, 100, 114, 101, 115, 115]⟩ : ByteArray)] from rfl) (Reps.one (show Kd.M Kd.string _ _ _ (⟨#[97, 114, 116, 105, 99, 108, 101]⟩ : ByteArray) [.string (⟨#[97, 114, 116, 105, 99, 108, 101]⟩ : ByteArray)] from rfl) (Reps.one (show Kd.M Kd.string _ _ _ (⟨#[97, 115, 105, 100, 101]⟩ : ByteArray) [.string (⟨#[97, 115, 105, 100, 101]⟩ : ByteArray)] from rfl) (Reps.one (show Kd.M Kd.string _ _ _ (⟨#[98, 108, 111, 99, 107, 113, 117, 111, 116, 101]⟩ : ByteArray) [.string (⟨#[98, 108, 111, 99, 107, 113, 117, 111, 116, 101]⟩ : ByteArray)] from rfl) (Reps.one (show Kd.M Kd.string _ _ _ (⟨#[99, 101, 110, 116, 101, 114]⟩ : ByteArray) [.string (⟨#[99, 101, 110, 116, 101, 114]⟩ : ByteArray)] from rfl) (Reps.one (show Kd.M Kd.string _ _ _ (⟨#[100, 100]⟩ : ByteArray) [.string (⟨#[100, 100]⟩ : ByteArray)] from rfl) (Reps.one (show Kd.M Kd.string _ _ _ (⟨#[100, 101, 116, 97, 105, 108, 115]⟩ : ByteArray) [.string (⟨#[100, 101, 116, 97, 105, 108, 115]⟩ : ByteArray)] from rfl) (Reps.one (show Kd.M Kd.string _ _ _ (⟨#[100, 105, 97, 108, 111, 103]⟩ : ByteArray) [.string (⟨#[100, 105, 97, 108, 111, 103]⟩ : ByteArray)] from rfl) (Reps.one (show Kd.M Kd.string _ _ _ (⟨#[100, 105, 114]⟩ : ByteArray) [.string (⟨#[100, 105, 114]⟩ : ByteArray)] from rfl) (Reps.one (show Kd.M Kd.string _ _ _ (⟨#[100, 105, 118]⟩ : ByteArray) [.string (⟨#[100, 105, 118]⟩ : ByteArray)] from rfl) (Reps.one (show Kd.M Kd.string _ _ _ (⟨#[100, 108]⟩ : ByteArray) [.string (⟨#[100, 108]⟩ : ByteArray)] from rfl) (Reps.one (show Kd.M Kd.string _ _ _ (⟨#[100, 116]⟩ : ByteArray) [.string (⟨#[100, 116]⟩ : ByteArray)] from rfl) (Reps.one (show Kd.M Kd.string _ _ _ (⟨#[102, 105, 101, 108, 100, 115, 101, 116]⟩ : ByteArray) [.string (⟨#[102, 105, 101, 108, 100, 115, 101, 116]⟩ : ByteArray)] from rfl) (Reps.one (show Kd.M Kd.string _ _ _ (⟨#[102, 105, 103, 99, 97, 112, 116, 105, 111, 110]⟩ : ByteArray) [.string (⟨#[102, 105, 103, 99, 97, 112, 116, 105, 111, 110]⟩ : ByteArray)] from rfl) (Reps.one (show Kd.M Kd.string _ _ _ (⟨#[102, 105, 103, 117, 114, 101]⟩ : ByteArray) [.string (⟨#[102, 105, 103, 117, 114, 101]⟩ : ByteArray)] from rfl) (Reps.one (show Kd.M Kd.string _ _ _ (⟨#[102, 111, 111, 116, 101, 114]⟩ : ByteArray) [.string (⟨#[102, 111, 111, 116, 101, 114]⟩ : ByteArray)] from rfl) (Reps.one (show Kd.M Kd.string _ _ _ (⟨#[102, 111, 114, 109]⟩ : ByteArray) [.string (⟨#[102, 111, 114, 109]⟩ : ByteArray)] from rfl) (Reps.one (show Kd.M Kd.string _ _ _ (⟨#[104, 49]⟩ : ByteArray) [.string (⟨#[104, 49]⟩ : ByteArray)] from rfl) (Reps.one (show Kd.M Kd.string _ _ _ (⟨#[104, 50]⟩ : ByteArray) [.string (⟨#[104, 50]⟩ : ByteArray)] from rfl) (Reps.one (show Kd.M Kd.string _ _ _ (⟨#[104, 51]⟩ : ByteArray) [.string (⟨#[104, 51]⟩ : ByteArray)] from rfl) (Reps.one (show Kd.M Kd.string _ _ _ (⟨#[104, 52]⟩ : ByteArray) [.string (⟨#[104, 52]⟩ : ByteArray)] from rfl) (Reps.one (show Kd.M Kd.string _ _ _ (⟨#[104, 53]⟩ : ByteArray) [.string (⟨#[104, 53]⟩ : ByteArray)] from rfl) (Reps.one (show Kd.M Kd.string _ _ _ (⟨#[104, 54]⟩ : ByteArray) [.string (⟨#[104, 54]⟩ : ByteArray)] from rfl) (Reps.one (show Kd.M Kd.string _ _ _ (⟨#[104, 101, 97, 100, 101, 114]⟩ : ByteArray) [.string (⟨#[104, 101, 97, 100, 101, 114]⟩ : ByteArray)] from rfl) (Reps.one (show Kd.M Kd.string _ _ _ (⟨#[104, 103, 114, 111, 117, 112]⟩ : ByteArray) [.string (⟨#[104, 103, 114, 111, 117, 112]⟩ : ByteArray)] from rfl) (Reps.one (show Kd.M Kd.string _ _ _ (⟨#[104, 114]⟩ : ByteArray) [.string (⟨#[104, 114]⟩ : ByteArray)] from rfl) (Reps.one (show Kd.M Kd.string _ _ _ (⟨#[108, 105]⟩ : ByteArray) [.string (⟨#[108, 105]⟩ : ByteArray)] from rfl) (Reps.one (show Kd.M Kd.string _ _ _ (⟨#[109, 97, 105, 110]⟩ : ByteArray) [.string (⟨#[109, 97, 105, 110]⟩ : ByteArray)] from rfl) (Reps.one (show Kd.M Kd.string _ _ _ (⟨#[109, 101, 110, 117]⟩ : ByteArray) [.string (⟨#[109, 101, 110, 117]⟩ : ByteArray)] from rfl) (Reps.one (show Kd.M Kd.string _ _ _ (⟨#[110, 97, 118]⟩ : ByteArray) [.string (⟨#[110, 97, 118]⟩ : ByteArray)] from rfl) (Reps.one (show Kd.M Kd.string _ _ _ (⟨#[111, 108]⟩ : ByteArray) [.string (⟨#[111, 108]⟩ : ByteArray)] from rfl) (Reps.one (show Kd.M Kd.string _ _ _ (⟨#[112]⟩ : ByteArray) [.string (⟨#[112]⟩ : ByteArray)] from rfl) (Reps.one (show Kd.M Kd.string _ _ _ (⟨#[112, 114, 101]⟩ : ByteArray) [.string (⟨#[112, 114, 101]⟩ : ByteArray)] from rfl) (Reps.one (show Kd.M Kd.string _ _ _ (⟨#[115, 101, 99, 116, 105, 111, 110]⟩ : ByteArray) [.string (⟨#[115, 101, 99, 116, 105, 111, 110]⟩ : ByteArray)] from rfl) (Reps.one (show Kd.M Kd.string _ _ _ (⟨#[115, 117, 109, 109, 97, 114, 121]⟩ : ByteArray) [.string (⟨#[115, 117, 109, 109, 97, 114, 121]⟩ : ByteArray)] from rfl) (Reps.one (show Kd.M Kd.string _ _ _ (⟨#[116, 97, 98, 108, 101]⟩ : ByteArray) [.string (⟨#[116, 97, 98, 108, 101]⟩ : ByteArray)] from rfl) (Reps.one (show Kd.M Kd.string _ _ _ (⟨#[117, 108]⟩ : ByteArray) [.string (⟨#[117, 108]⟩ : ByteArray)] from rfl) (Reps.one (show Kd.M Kd.string _ _ _ (⟨#[120, 109, 112]⟩ : ByteArray) [.string (⟨#[120, 109, 112]⟩ : ByteArray)] from rfl) (Reps.none _ _)))))))))))))))))))))))))))))))))))))))); intro v314 w3 ho4 hb hg_ hnew_; clear hg_ hnew_; (first | rw [← Ny313.out] at ho4 | (simp only [Int.reduceToNat] at ho4; rw [← Ny313.out] at ho4)); have n0_ := Aside0.mk (Kd.R_lower ho4 (below_size y14_)); have n1_ := Aside0.mk (below_step y14_ hb); clear HB; have HO315 := n0_; have HB := n1_; clear n0_ n1_; clear hb ho4; obtain ⟨Ao5, co5, eo5⟩ := Kd.R_slice HO315.out; subst eo5) | ((with_reducible refine gate_callee (f := 42) rfl ?_); refine goesL_ (some 5) rfl rfl Tryd.func42 (by kernel_rfl) rfl #[.string a0, .slice Ao5 y313.length co5] rfl y15_ ?_; (with_reducible refine (names_among.calls k a0 _ _ y313 t316 _ ?side1 ?side2 A2.out).mono ?_); (case side1 => repeat (first | exact (Kd.R_reads' HO315.out).2.2 | (with_reducible refine Kd.C_alloc ?_ _) | (with_reducible refine Kd.C_drewN ?_ _) | (with_reducible refine Kd.C_drew ?_))); (case side2 => exact (Kd.R_reads' HO315.out).2.1); rintro e w' ⟨rfl, ⟨nd, rfl⟩⟩; refine ⟨_, rfl, ?_⟩))
 go_ret
 exact ⟨y13_, y14_⟩
end Go.Proofs.YtpnhjipaeggcpaaDoor.X
end
section
namespace Go.Proofs.YtpnhjipaeggcpaaDoor.X
open Go.RowKit Go.Proofs.YtpnhjipaeggcpaaDoorW.PrintWords Go.Proofs.YtpnhjipaeggcpaaDoorW.PrintLast Go.Proofs.YtpnhjipaeggcpaaDoorW.PrintMore
attribute [local go_sem] max2_int min2_int max_two min_two max_three min_three max_four min_four
def names_Closes.j0 : Nat → ByteArray → ByteArray → Bool → Option (List ByteArray)
 | 0, _, _, _ => none
 | k + 1, x0, x3, x4 => if x4 = true then (some (([x0] : List ByteArray))) else (if x3.toList = ([100, 100] : List UInt8) then (some (([(⟨#[100, 100]⟩ : ByteArray), (⟨#[100, 116]⟩ : ByteArray)] : List ByteArray))) else (if x3.toList = ([100, 116] : List UInt8) then (some (([(⟨#[100, 100]⟩ : ByteArray), (⟨#[100, 116]⟩ : ByteArray)] : List ByteArray))) else (if x3.toList = ([111, 112, 116, 103, 114, 111, 117, 112] : List UInt8) then (some (([(⟨#[111, 112, 116, 103, 114, 111, 117, 112]⟩ : ByteArray), (⟨#[111, 112, 116, 105, 111, 110]⟩ : ByteArray)] : List ByteArray))) else (if x3.toList = ([116, 114] : List UInt8) then (some (([(⟨#[116, 100]⟩ : ByteArray), (⟨#[116, 104]⟩ : ByteArray), (⟨#[116, 114]⟩ : ByteArray)] : List ByteArray))) else (if x3.toList = ([116, 100] : List UInt8) then (some (([(⟨#[116, 100]⟩ : ByteArray), (⟨#[116, 104]⟩ : ByteArray)] : List ByteArray))) else (if x3.toList = ([116, 104] : List UInt8) then (some (([(⟨#[116, 100]⟩ : ByteArray), (⟨#[116, 104]⟩ : ByteArray)] : List ByteArray))) else ((names_table.f k x0).bind fun t338 => (if t338 = true then (some (([(⟨#[116, 98, 111, 100, 121]⟩ : ByteArray), (⟨#[116, 100]⟩ : ByteArray), (⟨#[116, 102, 111, 111, 116]⟩ : ByteArray), (⟨#[116, 104]⟩ : ByteArray), (⟨#[116, 104, 101, 97, 100]⟩ : ByteArray), (⟨#[116, 114]⟩ : ByteArray)] : List ByteArray))) else ((names_Block.f k x0).bind fun t342 => (if t342 = true then (some (([(⟨#[112]⟩ : ByteArray)] : List ByteArray))) else (some ([] : List ByteArray))))))))))))
def names_Closes.f (k : Nat) (a0 : ByteArray) : Option (List ByteArray) := if a0.toList = ([108, 105] : List UInt8) then (names_Closes.j0 k a0 a0 (a0.toList == ([108, 105] : List UInt8))) else (names_Closes.j0 k a0 a0 (a0.toList == ([111, 112, 116, 105, 111, 110] : List UInt8)))
theorem names_Closes.mono_l : ∀ k, (∀ y0 y1 y2, LeO (names_Closes.j0 k y0 y1 y2) (names_Closes.j0 (k + 1) y0 y1 y2))
 | 0 => fun _ _ _ r h => by simp [names_Closes.j0] at h
 | k + 1 => by
  have ih0 := names_Closes.mono_l k
  ·intro y0 y1 y2
   unfold names_Closes.j0
   repeat' first
   | (with_reducible exact ih0 _ _ _)
   | (with_reducible exact names_Block.mono _ _)
   | (with_reducible exact names_table.mono _ _)
   | (with_reducible exact LeO.refl _)
   | (with_reducible exact LeO.none _)
   | (with_reducible refine LeO.ite ?_ ?_)
   | (with_reducible refine LeO.bind ?_ (fun _ => ?_))
   | exact ih0 _ _ _
   | exact names_Block.mono _ _
   | exact names_table.mono _ _
   | exact LeO.none _
   | refine LeO.ite ?_ ?_
   | refine LeO.bind ?_ (fun _ => ?_)
theorem names_Closes.mono : ∀ a0 k, LeO (names_Closes.f k a0) (names_Closes.f (k + 1) a0) := by
 intro a0 k
 have ih0 := names_Closes.mono_l k
 unfold names_Closes.f
 repeat' first
   | (with_reducible exact ih0 _ _ _)
   | (with_reducible exact names_Block.mono _ _)
   | (with_reducible exact names_table.mono _ _)
   | (with_reducible exact LeO.refl _)
   | (with_reducible exact LeO.none _)
   | (with_reducible refine LeO.ite ?_ ?_)
   | (with_reducible refine LeO.bind ?_ (fun _ => ?_))
   | exact ih0 _ _ _
   | exact names_Block.mono _ _
   | exact names_table.mono _ _
   | exact LeO.none _
   | refine LeO.ite ?_ ?_
   | refine LeO.bind ?_ (fun _ => ?_)
set_option maxHeartbeats 8000000 in
set_option maxRecDepth 100000 in
theorem names_Closes.calls (k : Nat) (a0 : ByteArray) (r : List ByteArray) (w : World) (h : names_Closes.f k a0 = some r) :
  Calls Tryd.prog 77 #[.string a0] w fun e w' => ∃ v0_ : Value, e = .returned (v0_) ∧ Kd.R Kd.string 9 w' w.heap.size (fun _ => True) v0_ r ∧ Below w.heap.size w w' := by
 have HB := Aside0.mk (Below.refl w.heap.size w)
 have H : (if a0.toList = ([108, 105] : List UInt8) then (names_Closes.j0 k a0 a0 (a0.toList == ([108, 105] : List UInt8))) else (names_Closes.j0 k a0 a0 (a0.toList == ([111, 112, 116, 105, 111, 110] : List UInt8)))) = some r := h
 clear h
 have HC2 := Aside0.mk H
 clear H
 go_enter Tryd.func77, Tryd.ntmps77
 go_upto_if 4 with (fail)
 go_cut [4] (fun v4 wc => ∃ (kq : Nat) (x4_1 : Bool), v4 = .bool x4_1 ∧ Aside0 (names_Closes.j0 kq a0 a0 x4_1 = some r) ∧ Aside0 (kq ≤ k) ∧ Aside0 (Below w.heap.size w wc))
 case first =>
  have H := HC2.out
  clear HC2
  by_cases c3 : a0.toList = ([108, 105] : List UInt8)
  ·rw [if_pos c3] at H
   have c3b0 : (a0.toList == ([108, 105] : List UInt8)) = true := beq_iff_eq.mpr c3
   have c3b1 : (a0.toList != ([108, 105] : List UInt8)) = false := bne_eq_false_iff_eq.mpr c3
   clear c3
   (first | rw [c3b0] | (simp only [i64_w, i32_w]; rw [c3b0]) | skip)
   have H' := Aside0.mk H
   clear H
   go_wp2
   go_meet
   case rel => exact ⟨_, ((a0.toList == ([108, 105] : List UInt8))), y5_, H', ⟨y1_⟩, ⟨y14_⟩⟩
  ·rw [if_neg c3] at H
   have c3b0 : (a0.toList == ([108, 105] : List UInt8)) = false := beq_eq_false_iff_ne.mpr c3
   have c3b1 : (a0.toList != ([108, 105] : List UInt8)) = true := bne_iff_ne.mpr c3
   (first | rw [c3b0] | (simp only [i64_w, i32_w]; rw [c3b0]) | skip)
   have H' := Aside0.mk H
   clear H
   go_wp2
   go_meet
   case rel => exact ⟨_, ((a0.toList == ([111, 112, 116, 105, 111, 110] : List UInt8))), y5_, H', ⟨y1_⟩, ⟨y14_⟩⟩
 case rest =>
  clear HC2
  try clear p2
  try clear c3
  try clear c3b0
  try clear c3b1
  obtain ⟨kq, x4_1, rfl, HA, HJ1, HB⟩ := hcut
  cases kq with
  | zero => exact absurd HA.out (by simp [names_Closes.j0])
  | succ kj1 =>
   have H := HA.out
   clear HA
   simp only [names_Closes.j0] at H
   by_cases c4 : x4_1 = true
   ·subst c4
    rw [if_pos rfl] at H
    obtain ⟨y317, hy317⟩ : ∃ y_ : List ByteArray, y_ = (([a0] : List ByteArray)) := ⟨_, rfl⟩
    replace H : (some y317) = some r := by first | (rw [hy317]; with_reducible exact H) | (have H2_ := (Option.bind_some _ _).symm.trans H; rw [hy317]; with_reducible exact H2_) | (have H2_ := (Option.bind_some _ _).symm.trans H; with_reducible exact H2_) | with_reducible exact H | (rw [hy317]; exact H) | exact H
    have Ny317 := Aside0.mk hy317
    clear hy317
    obtain rfl := Option.some.inj H
    go_wp2_with (first | ((with_reducible refine gate_dst (N := 19) rfl ?_); refine Kd.R_lit Kd.string _ 9 ?hg (N := 19) ?hd (xs := ([a0] : List ByteArray)) (inner := [.string a0]) (ok := fun _ => True) (okp := fun _ => True) ?hr ?hp (fun _ hk => hk) trivial (Below.refl _ _) (Nat.le_refl _) (by simp) ?_; (case hd => rfl); (case hg => rfl); (case hr => first | (go_simp; done) | (go_simp; rfl)); (case hp => exact (Reps.one (show Kd.M Kd.string _ _ _ a0 [.string a0] from rfl) (Reps.none _ _))); intro v318 w5 ho6 hb hg_ hnew_; clear hg_ hnew_; (first | rw [← Ny317.out] at ho6 | (simp only [Int.reduceToNat] at ho6; rw [← Ny317.out] at ho6)); have n0_ := Aside0.mk (Kd.R_lower ho6 (below_size y14_)); have n1_ := Aside0.mk (below_step y14_ hb); clear HB; have HO319 := n0_; have HB := n1_; clear n0_ n1_; clear hb ho6))
    go_ret
    exact ⟨_, y13_, by (with_reducible repeat (first | apply Kd.R_alloc | apply Kd.R_drewN | apply Kd.R_drew)); exact HO319.out, y14_⟩
   ·replace c4 := Bool.eq_false_iff.mpr c4
    subst c4
    rw [if_neg (show ¬ (false = true) by decide)] at H
    by_cases c7 : a0.toList = ([100, 100] : List UInt8)
    ·rw [if_pos c7] at H
     have c7b0 : (a0.toList == ([100, 100] : List UInt8)) = true := beq_iff_eq.mpr c7
     have c7b1 : (a0.toList != ([100, 100] : List UInt8)) = false := bne_eq_false_iff_eq.mpr c7
     clear c7
     obtain ⟨y320, hy320⟩ : ∃ y_ : List ByteArray, y_ = (([(⟨#[100, 100]⟩ : ByteArray), (⟨#[100, 116]⟩ : ByteArray)] : List ByteArray)) := ⟨_, rfl⟩
     replace H : (some y320) = some r := by first | (rw [hy320]; with_reducible exact H) | (have H2_ := (Option.bind_some _ _).symm.trans H; rw [hy320]; with_reducible exact H2_) | (have H2_ := (Option.bind_some _ _).symm.trans H; with_reducible exact H2_) | with_reducible exact H | (rw [hy320]; exact H) | exact H
     have Ny320 := Aside0.mk hy320
     clear hy320
     obtain rfl := Option.some.inj H
     go_wp2_with (first | ((with_reducible refine gate_dst (N := 20) rfl ?_); refine Kd.R_lit Kd.string _ 9 ?hg (N := 20) ?hd (xs := ([(⟨#[100, 100]⟩ : ByteArray), (⟨#[100, 116]⟩ : ByteArray)] : List ByteArray)) (inner := [.string (⟨#[100, 100]⟩ : ByteArray), .string (⟨#[100, 116]⟩ : ByteArray)]) (ok := fun _ => True) (okp := fun _ => True) ?hr ?hp (fun _ hk => hk) trivial (Below.refl _ _) (Nat.le_refl _) (by simp) ?_; (case hd => rfl); (case hg => rfl); (case hr => first | (go_simp; done) | (go_simp; rfl)); (case hp => exact (Reps.one (show Kd.M Kd.string _ _ _ (⟨#[100, 100]⟩ : ByteArray) [.string (⟨#[100, 100]⟩ : ByteArray)] from rfl) (Reps.one (show Kd.M Kd.string _ _ _ (⟨#[100, 116]⟩ : ByteArray) [.string (⟨#[100, 116]⟩ : ByteArray)] from rfl) (Reps.none _ _)))); intro v321 w8 ho9 hb hg_ hnew_; clear hg_ hnew_; (first | rw [← Ny320.out] at ho9 | (simp only [Int.reduceToNat] at ho9; rw [← Ny320.out] at ho9)); have n0_ := Aside0.mk (Kd.R_lower ho9 (below_size y14_)); have n1_ := Aside0.mk (below_step y14_ hb); clear HB; have HO322 := n0_; have HB := n1_; clear n0_ n1_; clear hb ho9))
     go_ret
     exact ⟨_, y13_, by (with_reducible repeat (first | apply Kd.R_alloc | apply Kd.R_drewN | apply Kd.R_drew)); exact HO322.out, y14_⟩
    ·rw [if_neg c7] at H
     have c7b0 : (a0.toList == ([100, 100] : List UInt8)) = false := beq_eq_false_iff_ne.mpr c7
     have c7b1 : (a0.toList != ([100, 100] : List UInt8)) = true := bne_iff_ne.mpr c7
     by_cases c10 : a0.toList = ([100, 116] : List UInt8)
     ·rw [if_pos c10] at H
      have c10b0 : (a0.toList == ([100, 116] : List UInt8)) = true := beq_iff_eq.mpr c10
      have c10b1 : (a0.toList != ([100, 116] : List UInt8)) = false := bne_eq_false_iff_eq.mpr c10
      clear c10
      obtain ⟨y323, hy323⟩ : ∃ y_ : List ByteArray, y_ = (([(⟨#[100, 100]⟩ : ByteArray), (⟨#[100, 116]⟩ : ByteArray)] : List ByteArray)) := ⟨_, rfl⟩
      replace H : (some y323) = some r := by first | (rw [hy323]; with_reducible exact H) | (have H2_ := (Option.bind_some _ _).symm.trans H; rw [hy323]; with_reducible exact H2_) | (have H2_ := (Option.bind_some _ _).symm.trans H; with_reducible exact H2_) | with_reducible exact H | (rw [hy323]; exact H) | exact H
      have Ny323 := Aside0.mk hy323
      clear hy323
      obtain rfl := Option.some.inj H
      go_wp2_with (first | ((with_reducible refine gate_dst (N := 20) rfl ?_); refine Kd.R_lit Kd.string _ 9 ?hg (N := 20) ?hd (xs := ([(⟨#[100, 100]⟩ : ByteArray), (⟨#[100, 116]⟩ : ByteArray)] : List ByteArray)) (inner := [.string (⟨#[100, 100]⟩ : ByteArray), .string (⟨#[100, 116]⟩ : ByteArray)]) (ok := fun _ => True) (okp := fun _ => True) ?hr ?hp (fun _ hk => hk) trivial (Below.refl _ _) (Nat.le_refl _) (by simp) ?_; (case hd => rfl); (case hg => rfl); (case hr => first | (go_simp; done) | (go_simp; rfl)); (case hp => exact (Reps.one (show Kd.M Kd.string _ _ _ (⟨#[100, 100]⟩ : ByteArray) [.string (⟨#[100, 100]⟩ : ByteArray)] from rfl) (Reps.one (show Kd.M Kd.string _ _ _ (⟨#[100, 116]⟩ : ByteArray) [.string (⟨#[100, 116]⟩ : ByteArray)] from rfl) (Reps.none _ _)))); intro v324 w11 ho12 hb hg_ hnew_; clear hg_ hnew_; (first | rw [← Ny323.out] at ho12 | (simp only [Int.reduceToNat] at ho12; rw [← Ny323.out] at ho12)); have n0_ := Aside0.mk (Kd.R_lower ho12 (below_size y14_)); have n1_ := Aside0.mk (below_step y14_ hb); clear HB; have HO325 := n0_; have HB := n1_; clear n0_ n1_; clear hb ho12))
      go_ret
      exact ⟨_, y13_, by (with_reducible repeat (first | apply Kd.R_alloc | apply Kd.R_drewN | apply Kd.R_drew)); exact HO325.out, y14_⟩
     ·rw [if_neg c10] at H
      have c10b0 : (a0.toList == ([100, 116] : List UInt8)) = false := beq_eq_false_iff_ne.mpr c10
      have c10b1 : (a0.toList != ([100, 116] : List UInt8)) = true := bne_iff_ne.mpr c10
      by_cases c13 : a0.toList = ([111, 112, 116, 103, 114, 111, 117, 112] : List UInt8)
      ·rw [if_pos c13] at H
       have c13b0 : (a0.toList == ([111, 112, 116, 103, 114, 111, 117, 112] : List UInt8)) = true := beq_iff_eq.mpr c13
       have c13b1 : (a0.toList != ([111, 112, 116, 103, 114, 111, 117, 112] : List UInt8)) = false := bne_eq_false_iff_eq.mpr c13
       clear c13
       obtain ⟨y326, hy326⟩ : ∃ y_ : List ByteArray, y_ = (([(⟨#[111, 112, 116, 103, 114, 111, 117, 112]⟩ : ByteArray), (⟨#[111, 112, 116, 105, 111, 110]⟩ : ByteArray)] : List ByteArray)) := ⟨_, rfl⟩
       replace H : (some y326) = some r := by first | (rw [hy326]; with_reducible exact H) | (have H2_ := (Option.bind_some _ _).symm.trans H; rw [hy326]; with_reducible exact H2_) | (have H2_ := (Option.bind_some _ _).symm.trans H; with_reducible exact H2_) | with_reducible exact H | (rw [hy326]; exact H) | exact H
       have Ny326 := Aside0.mk hy326
       clear hy326
       obtain rfl := Option.some.inj H
       go_wp2_with (first | ((with_reducible refine gate_dst (N := 21) rfl ?_); refine Kd.R_lit Kd.string _ 9 ?hg (N := 21) ?hd (xs := ([(⟨#[111, 112, 116, 103, 114, 111, 117, 112]⟩ : ByteArray), (⟨#[111, 112, 116, 105, 111, 110]⟩ : ByteArray)] : List ByteArray)) (inner := [.string (⟨#[111, 112, 116, 103, 114, 111, 117, 112]⟩ : ByteArray), .string (⟨#[111, 112, 116, 105, 111, 110]⟩ : ByteArray)]) (ok := fun _ => True) (okp := fun _ => True) ?hr ?hp (fun _ hk => hk) trivial (Below.refl _ _) (Nat.le_refl _) (by simp) ?_; (case hd => rfl); (case hg => rfl); (case hr => first | (go_simp; done) | (go_simp; rfl)); (case hp => exact (Reps.one (show Kd.M Kd.string _ _ _ (⟨#[111, 112, 116, 103, 114, 111, 117, 112]⟩ : ByteArray) [.string (⟨#[111, 112, 116, 103, 114, 111, 117, 112]⟩ : ByteArray)] from rfl) (Reps.one (show Kd.M Kd.string _ _ _ (⟨#[111, 112, 116, 105, 111, 110]⟩ : ByteArray) [.string (⟨#[111, 112, 116, 105, 111, 110]⟩ : ByteArray)] from rfl) (Reps.none _ _)))); intro v327 w14 ho15 hb hg_ hnew_; clear hg_ hnew_; (first | rw [← Ny326.out] at ho15 | (simp only [Int.reduceToNat] at ho15; rw [← Ny326.out] at ho15)); have n0_ := Aside0.mk (Kd.R_lower ho15 (below_size y14_)); have n1_ := Aside0.mk (below_step y14_ hb); clear HB; have HO328 := n0_; have HB := n1_; clear n0_ n1_; clear hb ho15))
       go_ret
       exact ⟨_, y13_, by (with_reducible repeat (first | apply Kd.R_alloc | apply Kd.R_drewN | apply Kd.R_drew)); exact HO328.out, y14_⟩
      ·rw [if_neg c13] at H
       have c13b0 : (a0.toList == ([111, 112, 116, 103, 114, 111, 117, 112] : List UInt8)) = false := beq_eq_false_iff_ne.mpr c13
       have c13b1 : (a0.toList != ([111, 112, 116, 103, 114, 111, 117, 112] : List UInt8)) = true := bne_iff_ne.mpr c13
       by_cases c16 : a0.toList = ([116, 114] : List UInt8)
       ·rw [if_pos c16] at H
        have c16b0 : (a0.toList == ([116, 114] : List UInt8)) = true := beq_iff_eq.mpr c16
        have c16b1 : (a0.toList != ([116, 114] : List UInt8)) = false := bne_eq_false_iff_eq.mpr c16
        clear c16
        obtain ⟨y329, hy329⟩ : ∃ y_ : List ByteArray, y_ = (([(⟨#[116, 100]⟩ : ByteArray), (⟨#[116, 104]⟩ : ByteArray), (⟨#[116, 114]⟩ : ByteArray)] : List ByteArray)) := ⟨_, rfl⟩
        replace H : (some y329) = some r := by first | (rw [hy329]; with_reducible exact H) | (have H2_ := (Option.bind_some _ _).symm.trans H; rw [hy329]; with_reducible exact H2_) | (have H2_ := (Option.bind_some _ _).symm.trans H; with_reducible exact H2_) | with_reducible exact H | (rw [hy329]; exact H) | exact H
        have Ny329 := Aside0.mk hy329
        clear hy329
        obtain rfl := Option.some.inj H
        go_wp2_with (first | ((with_reducible refine gate_dst (N := 22) rfl ?_); refine Kd.R_lit Kd.string _ 9 ?hg (N := 22) ?hd (xs := ([(⟨#[116, 100]⟩ : ByteArray), (⟨#[116, 104]⟩ : ByteArray), (⟨#[116, 114]⟩ : ByteArray)] : List ByteArray)) (inner := [.string (⟨#[116, 100]⟩ : ByteArray), .string (⟨#[116, 104]⟩ : ByteArray), .string (⟨#[116, 114]⟩ : ByteArray)]) (ok := fun _ => True) (okp := fun _ => True) ?hr ?hp (fun _ hk => hk) trivial (Below.refl _ _) (Nat.le_refl _) (by simp) ?_; (case hd => rfl); (case hg => rfl); (case hr => first | (go_simp; done) | (go_simp; rfl)); (case hp => exact (Reps.one (show Kd.M Kd.string _ _ _ (⟨#[116, 100]⟩ : ByteArray) [.string (⟨#[116, 100]⟩ : ByteArray)] from rfl) (Reps.one (show Kd.M Kd.string _ _ _ (⟨#[116, 104]⟩ : ByteArray) [.string (⟨#[116, 104]⟩ : ByteArray)] from rfl) (Reps.one (show Kd.M Kd.string _ _ _ (⟨#[116, 114]⟩ : ByteArray) [.string (⟨#[116, 114]⟩ : ByteArray)] from rfl) (Reps.none _ _))))); intro v330 w17 ho18 hb hg_ hnew_; clear hg_ hnew_; (first | rw [← Ny329.out] at ho18 | (simp only [Int.reduceToNat] at ho18; rw [← Ny329.out] at ho18)); have n0_ := Aside0.mk (Kd.R_lower ho18 (below_size y14_)); have n1_ := Aside0.mk (below_step y14_ hb); clear HB; have HO331 := n0_; have HB := n1_; clear n0_ n1_; clear hb ho18))
        go_ret
        exact ⟨_, y13_, by (with_reducible repeat (first | apply Kd.R_alloc | apply Kd.R_drewN | apply Kd.R_drew)); exact HO331.out, y14_⟩
       ·rw [if_neg c16] at H
        have c16b0 : (a0.toList == ([116, 114] : List UInt8)) = false := beq_eq_false_iff_ne.mpr c16
        have c16b1 : (a0.toList != ([116, 114] : List UInt8)) = true := bne_iff_ne.mpr c16
        by_cases c19 : a0.toList = ([116, 100] : List UInt8)
        ·rw [if_pos c19] at H
         have c19b0 : (a0.toList == ([116, 100] : List UInt8)) = true := beq_iff_eq.mpr c19
         have c19b1 : (a0.toList != ([116, 100] : List UInt8)) = false := bne_eq_false_iff_eq.mpr c19
         clear c19
         obtain ⟨y332, hy332⟩ : ∃ y_ : List ByteArray, y_ = (([(⟨#[116, 100]⟩ : ByteArray), (⟨#[116, 104]⟩ : ByteArray)] : List ByteArray)) := ⟨_, rfl⟩
         replace H : (some y332) = some r := by first | (rw [hy332]; with_reducible exact H) | (have H2_ := (Option.bind_some _ _).symm.trans H; rw [hy332]; with_reducible exact H2_) | (have H2_ := (Option.bind_some _ _).symm.trans H; with_reducible exact H2_) | with_reducible exact H | (rw [hy332]; exact H) | exact H
         have Ny332 := Aside0.mk hy332
         clear hy332
         obtain rfl := Option.some.inj H
         go_wp2_with (first | ((with_reducible refine gate_dst (N := 23) rfl ?_); refine Kd.R_lit Kd.string _ 9 ?hg (N := 23) ?hd (xs := ([(⟨#[116, 100]⟩ : ByteArray), (⟨#[116, 104]⟩ : ByteArray)] : List ByteArray)) (inner := [.string (⟨#[116, 100]⟩ : ByteArray), .string (⟨#[116, 104]⟩ : ByteArray)]) (ok := fun _ => True) (okp := fun _ => True) ?hr ?hp (fun _ hk => hk) trivial (Below.refl _ _) (Nat.le_refl _) (by simp) ?_; (case hd => rfl); (case hg => rfl); (case hr => first | (go_simp; done) | (go_simp; rfl)); (case hp => exact (Reps.one (show Kd.M Kd.string _ _ _ (⟨#[116, 100]⟩ : ByteArray) [.string (⟨#[116, 100]⟩ : ByteArray)] from rfl) (Reps.one (show Kd.M Kd.string _ _ _ (⟨#[116, 104]⟩ : ByteArray) [.string (⟨#[116, 104]⟩ : ByteArray)] from rfl) (Reps.none _ _)))); intro v333 w20 ho21 hb hg_ hnew_; clear hg_ hnew_; (first | rw [← Ny332.out] at ho21 | (simp only [Int.reduceToNat] at ho21; rw [← Ny332.out] at ho21)); have n0_ := Aside0.mk (Kd.R_lower ho21 (below_size y14_)); have n1_ := Aside0.mk (below_step y14_ hb); clear HB; have HO334 := n0_; have HB := n1_; clear n0_ n1_; clear hb ho21))
         go_ret
         exact ⟨_, y13_, by (with_reducible repeat (first | apply Kd.R_alloc | apply Kd.R_drewN | apply Kd.R_drew)); exact HO334.out, y14_⟩
        ·rw [if_neg c19] at H
         have c19b0 : (a0.toList == ([116, 100] : List UInt8)) = false := beq_eq_false_iff_ne.mpr c19
         have c19b1 : (a0.toList != ([116, 100] : List UInt8)) = true := bne_iff_ne.mpr c19
         by_cases c22 : a0.toList = ([116, 104] : List UInt8)
         ·rw [if_pos c22] at H
          have c22b0 : (a0.toList == ([116, 104] : List UInt8)) = true := beq_iff_eq.mpr c22
          have c22b1 : (a0.toList != ([116, 104] : List UInt8)) = false := bne_eq_false_iff_eq.mpr c22
          clear c22
          obtain ⟨y335, hy335⟩ : ∃ y_ : List ByteArray, y_ = (([(⟨#[116, 100]⟩ : ByteArray), (⟨#[116, 104]⟩ : ByteArray)] : List ByteArray)) := ⟨_, rfl⟩
          replace H : (some y335) = some r := by first | (rw [hy335]; with_reducible exact H) | (have H2_ := (Option.bind_some _ _).symm.trans H; rw [hy335]; with_reducible exact H2_) | (have H2_ := (Option.bind_some _ _).symm.trans H; with_reducible exact H2_) | with_reducible exact H | (rw [hy335]; exact H) | exact H
          have Ny335 := Aside0.mk hy335
          clear hy335
          obtain rfl := Option.some.inj H
          go_wp2_with (first | ((with_reducible refine gate_dst (N := 23) rfl ?_); refine Kd.R_lit Kd.string _ 9 ?hg (N := 23) ?hd (xs := ([(⟨#[116, 100]⟩ : ByteArray), (⟨#[116, 104]⟩ : ByteArray)] : List ByteArray)) (inner := [.string (⟨#[116, 100]⟩ : ByteArray), .string (⟨#[116, 104]⟩ : ByteArray)]) (ok := fun _ => True) (okp := fun _ => True) ?hr ?hp (fun _ hk => hk) trivial (Below.refl _ _) (Nat.le_refl _) (by simp) ?_; (case hd => rfl); (case hg => rfl); (case hr => first | (go_simp; done) | (go_simp; rfl)); (case hp => exact (Reps.one (show Kd.M Kd.string _ _ _ (⟨#[116, 100]⟩ : ByteArray) [.string (⟨#[116, 100]⟩ : ByteArray)] from rfl) (Reps.one (show Kd.M Kd.string _ _ _ (⟨#[116, 104]⟩ : ByteArray) [.string (⟨#[116, 104]⟩ : ByteArray)] from rfl) (Reps.none _ _)))); intro v336 w23 ho24 hb hg_ hnew_; clear hg_ hnew_; (first | rw [← Ny335.out] at ho24 | (simp only [Int.reduceToNat] at ho24; rw [← Ny335.out] at ho24)); have n0_ := Aside0.mk (Kd.R_lower ho24 (below_size y14_)); have n1_ := Aside0.mk (below_step y14_ hb); clear HB; have HO337 := n0_; have HB := n1_; clear n0_ n1_; clear hb ho24))
          go_ret
          exact ⟨_, y13_, by (with_reducible repeat (first | apply Kd.R_alloc | apply Kd.R_drewN | apply Kd.R_drew)); exact HO337.out, y14_⟩
         ·rw [if_neg c22] at H
          have c22b0 : (a0.toList == ([116, 104] : List UInt8)) = false := beq_eq_false_iff_ne.mpr c22
          have c22b1 : (a0.toList != ([116, 104] : List UInt8)) = true := bne_iff_ne.mpr c22
          replace H := Option.bind_eq_some_iff.mp H
          obtain ⟨t338, A250, H⟩ := H
          have A25 := Aside0.mk A250
          clear A250
          by_cases c26 : t338 = true
          ·subst c26
           rw [if_pos rfl] at H
           obtain ⟨y339, hy339⟩ : ∃ y_ : List ByteArray, y_ = (([(⟨#[116, 98, 111, 100, 121]⟩ : ByteArray), (⟨#[116, 100]⟩ : ByteArray), (⟨#[116, 102, 111, 111, 116]⟩ : ByteArray), (⟨#[116, 104]⟩ : ByteArray), (⟨#[116, 104, 101, 97, 100]⟩ : ByteArray), (⟨#[116, 114]⟩ : ByteArray)] : List ByteArray)) := ⟨_, rfl⟩
           replace H : (some y339) = some r := by first | (rw [hy339]; with_reducible exact H) | (have H2_ := (Option.bind_some _ _).symm.trans H; rw [hy339]; with_reducible exact H2_) | (have H2_ := (Option.bind_some _ _).symm.trans H; with_reducible exact H2_) | with_reducible exact H | (rw [hy339]; exact H) | exact H
           have Ny339 := Aside0.mk hy339
           clear hy339
           obtain rfl := Option.some.inj H
           go_wp2_with (first | ((with_reducible refine gate_callee (f := 93) rfl ?_); refine goesL_ (some 25) rfl rfl Tryd.func93 (by kernel_rfl) rfl #[.string a0] rfl y15_ ?_; (with_reducible refine (names_table.calls kj1 a0 true _ A25.out).mono ?_); rintro e w27 ⟨rfl, hb⟩; refine ⟨_, rfl, ?_⟩; have n0_ := Aside0.mk (below_step y14_ hb); clear HB; have HB := n0_; clear n0_; (try clear hb); (try clear hb2); (try clear hk); (try clear hi)) | ((with_reducible refine gate_dst (N := 26) rfl ?_); refine Kd.R_lit Kd.string _ 9 ?hg (N := 26) ?hd (xs := ([(⟨#[116, 98, 111, 100, 121]⟩ : ByteArray), (⟨#[116, 100]⟩ : ByteArray), (⟨#[116, 102, 111, 111, 116]⟩ : ByteArray), (⟨#[116, 104]⟩ : ByteArray), (⟨#[116, 104, 101, 97, 100]⟩ : ByteArray), (⟨#[116, 114]⟩ : ByteArray)] : List ByteArray)) (inner := [.string (⟨#[116, 98, 111, 100, 121]⟩ : ByteArray), .string (⟨#[116, 100]⟩ : ByteArray), .string (⟨#[116, 102, 111, 111, 116]⟩ : ByteArray), .string (⟨#[116, 104]⟩ : ByteArray), .string (⟨#[116, 104, 101, 97, 100]⟩ : ByteArray), .string (⟨#[116, 114]⟩ : ByteArray)]) (ok := fun _ => True) (okp := fun _ => True) ?hr ?hp (fun _ hk => hk) trivial (Below.refl _ _) (Nat.le_refl _) (by simp) ?_; (case hd => rfl); (case hg => rfl); (case hr => first | (go_simp; done) | (go_simp; rfl)); (case hp => exact (Reps.one (show Kd.M Kd.string _ _ _ (⟨#[116, 98, 111, 100, 121]⟩ : ByteArray) [.string (⟨#[116, 98, 111, 100, 121]⟩ : ByteArray)] from rfl) (Reps.one (show Kd.M Kd.string _ _ _ (⟨#[116, 100]⟩ : ByteArray) [.string (⟨#[116, 100]⟩ : ByteArray)] from rfl) (Reps.one (show Kd.M Kd.string _ _ _ (⟨#[116, 102, 111, 111, 116]⟩ : ByteArray) [.string (⟨#[116, 102, 111, 111, 116]⟩ : ByteArray)] from rfl) (Reps.one (show Kd.M Kd.string _ _ _ (⟨#[116, 104]⟩ : ByteArray) [.string (⟨#[116, 104]⟩ : ByteArray)] from rfl) (Reps.one (show Kd.M Kd.string _ _ _ (⟨#[116, 104, 101, 97, 100]⟩ : ByteArray) [.string (⟨#[116, 104, 101, 97, 100]⟩ : ByteArray)] from rfl) (Reps.one (show Kd.M Kd.string _ _ _ (⟨#[116, 114]⟩ : ByteArray) [.string (⟨#[116, 114]⟩ : ByteArray)] from rfl) (Reps.none _ _)))))))); intro v340 w28 ho29 hb hg_ hnew_; clear hg_ hnew_; (first | rw [← Ny339.out] at ho29 | (simp only [Int.reduceToNat] at ho29; rw [← Ny339.out] at ho29)); have n0_ := Aside0.mk (Kd.R_lower ho29 (below_size y14_)); have n1_ := Aside0.mk (below_step y14_ hb); clear HB; have HO341 := n0_; have HB := n1_; clear n0_ n1_; clear hb ho29))
           go_ret
           exact ⟨_, y13_, by (with_reducible repeat (first | apply Kd.R_alloc | apply Kd.R_drewN | apply Kd.R_drew)); exact HO341.out, y14_⟩
          ·replace c26 := Bool.eq_false_iff.mpr c26
           subst c26
           rw [if_neg (show ¬ (false = true) by decide)] at H
           replace H := Option.bind_eq_some_iff.mp H
           obtain ⟨t342, A300, H⟩ := H
           have A30 := Aside0.mk A300
           clear A300
           by_cases c31 : t342 = true
           ·subst c31
            rw [if_pos rfl] at H
            obtain ⟨y343, hy343⟩ : ∃ y_ : List ByteArray, y_ = (([(⟨#[112]⟩ : ByteArray)] : List ByteArray)) := ⟨_, rfl⟩
            replace H : (some y343) = some r := by first | (rw [hy343]; with_reducible exact H) | (have H2_ := (Option.bind_some _ _).symm.trans H; rw [hy343]; with_reducible exact H2_) | (have H2_ := (Option.bind_some _ _).symm.trans H; with_reducible exact H2_) | with_reducible exact H | (rw [hy343]; exact H) | exact H
            have Ny343 := Aside0.mk hy343
            clear hy343
            obtain rfl := Option.some.inj H
            go_wp2_with (first | ((with_reducible refine gate_callee (f := 93) rfl ?_); refine goesL_ (some 25) rfl rfl Tryd.func93 (by kernel_rfl) rfl #[.string a0] rfl y15_ ?_; (with_reducible refine (names_table.calls kj1 a0 false _ A25.out).mono ?_); rintro e w32 ⟨rfl, hb⟩; refine ⟨_, rfl, ?_⟩; have n0_ := Aside0.mk (below_step y14_ hb); clear HB; have HB := n0_; clear n0_; (try clear hb); (try clear hb2); (try clear hk); (try clear hi)) | ((with_reducible refine gate_callee (f := 94) rfl ?_); refine goesL_ (some 28) rfl rfl Tryd.func94 (by kernel_rfl) rfl #[.string a0] rfl y15_ ?_; (with_reducible refine (names_Block.calls kj1 a0 true _ A30.out).mono ?_); rintro e w33 ⟨rfl, hb⟩; refine ⟨_, rfl, ?_⟩; have n0_ := Aside0.mk (below_step y14_ hb); clear HB; have HB := n0_; clear n0_; (try clear hb); (try clear hb2); (try clear hk); (try clear hi)) | ((with_reducible refine gate_dst (N := 29) rfl ?_); refine Kd.R_lit Kd.string _ 9 ?hg (N := 29) ?hd (xs := ([(⟨#[112]⟩ : ByteArray)] : List ByteArray)) (inner := [.string (⟨#[112]⟩ : ByteArray)]) (ok := fun _ => True) (okp := fun _ => True) ?hr ?hp (fun _ hk => hk) trivial (Below.refl _ _) (Nat.le_refl _) (by simp) ?_; (case hd => rfl); (case hg => rfl); (case hr => first | (go_simp; done) | (go_simp; rfl)); (case hp => exact (Reps.one (show Kd.M Kd.string _ _ _ (⟨#[112]⟩ : ByteArray) [.string (⟨#[112]⟩ : ByteArray)] from rfl) (Reps.none _ _))); intro v344 w34 ho35 hb hg_ hnew_; clear hg_ hnew_; (first | rw [← Ny343.out] at ho35 | (simp only [Int.reduceToNat] at ho35; rw [← Ny343.out] at ho35)); have n0_ := Aside0.mk (Kd.R_lower ho35 (below_size y14_)); have n1_ := Aside0.mk (below_step y14_ hb); clear HB; have HO345 := n0_; have HB := n1_; clear n0_ n1_; clear hb ho35))
            go_ret
            exact ⟨_, y13_, by (with_reducible repeat (first | apply Kd.R_alloc | apply Kd.R_drewN | apply Kd.R_drew)); exact HO345.out, y14_⟩
           ·replace c31 := Bool.eq_false_iff.mpr c31
            subst c31
            rw [if_neg (show ¬ (false = true) by decide)] at H
            obtain rfl := Option.some.inj H
            go_wp2_with (first | ((with_reducible refine gate_callee (f := 93) rfl ?_); refine goesL_ (some 25) rfl rfl Tryd.func93 (by kernel_rfl) rfl #[.string a0] rfl y15_ ?_; (with_reducible refine (names_table.calls kj1 a0 false _ A25.out).mono ?_); rintro e w36 ⟨rfl, hb⟩; refine ⟨_, rfl, ?_⟩; have n0_ := Aside0.mk (below_step y14_ hb); clear HB; have HB := n0_; clear n0_; (try clear hb); (try clear hb2); (try clear hk); (try clear hi)) | ((with_reducible refine gate_callee (f := 94) rfl ?_); refine goesL_ (some 28) rfl rfl Tryd.func94 (by kernel_rfl) rfl #[.string a0] rfl y15_ ?_; (with_reducible refine (names_Block.calls kj1 a0 false _ A30.out).mono ?_); rintro e w37 ⟨rfl, hb⟩; refine ⟨_, rfl, ?_⟩; have n0_ := Aside0.mk (below_step y14_ hb); clear HB; have HB := n0_; clear n0_; (try clear hb); (try clear hb2); (try clear hk); (try clear hi)))
            go_ret
            exact ⟨_, y13_, y16_, y14_⟩
end Go.Proofs.YtpnhjipaeggcpaaDoor.X
end
section
namespace Go.Proofs.YtpnhjipaeggcpaaDoor.X
open Go.RowKit Go.Proofs.YtpnhjipaeggcpaaDoorW.PrintWords Go.Proofs.YtpnhjipaeggcpaaDoorW.PrintLast Go.Proofs.YtpnhjipaeggcpaaDoorW.PrintMore
attribute [local go_sem] max2_int min2_int max_two min_two max_three min_three max_four min_four
def slices_Index_string_string.l0 : Nat → List ByteArray → ByteArray → Int → Int → Option (Int)
 | 0, _, _, _, _ => none
 | k + 1, x0, x1, x7, x8 => if x8 < x7 then (if 0 ≤ x8 then (if x8 < (x0.length : Int) then (if x1.toList = (rdOf ByteArray.empty x0 x8).toList then (some x8) else (slices_Index_string_string.l0 k x0 x1 x7 (wrap64 (x8 + 1)))) else (none)) else (none)) else (some (-1))
def slices_Index_string_string.f (k : Nat) (l0 : List ByteArray) (a1 : ByteArray) : Option (Int) := slices_Index_string_string.l0 k l0 a1 (l0.length : Int) 0
set_option maxHeartbeats 8000000 in
set_option maxRecDepth 100000 in
theorem slices_Index_string_string.calls (k : Nat) (A0 : Option Addr) (c0 : Nat) (l0 : List ByteArray) (a1 : ByteArray) (r : Int) (w : World) (hr0 : Kd.C Kd.string w A0 l0.length l0) (hc0 : l0.length ≤ c0) (h : slices_Index_string_string.f k l0 a1 = some r) :
  Calls Tryd.prog 102 #[.slice A0 l0.length c0, .string a1] w fun e w' => e = .returned (.int .i64 r) ∧ Drawn0 w w' := by
 have HR0 := Aside0.mk hr0
 have HC0 := Aside0.mk hc0
 clear hr0 hc0
 have H : (slices_Index_string_string.l0 k l0 a1 (l0.length : Int) 0) = some r := h
 clear h
 have H' := Aside0.mk H
 clear H
 go_enter Tryd.func102, Tryd.ntmps102
 go_wp2
 go_loopg [8] k (fun kq v8 w' => ∃ (x8_1 : Int), v8 = .int .i64 x8_1 ∧ Aside0 (slices_Index_string_string.l0 kq l0 a1 (l0.length : Int) x8_1 = some r) ∧ Aside0 (kq ≤ k) ∧ Drawn0 w w')
 case atStart => exact ⟨(0), y5_, H', ⟨Nat.le_refl _⟩, y3_⟩
 case round =>
  clear H'
  try clear c1
  try clear p2
  obtain ⟨x8_1, rfl, HA, HK1, ⟨m1, rfl⟩⟩ := hrel
  cases gk with
  | zero => exact absurd HA.out (by simp [slices_Index_string_string.l0])
  | succ k1 =>
   have H := HA.out
   clear HA
   simp only [slices_Index_string_string.l0] at H
   by_cases c3 : x8_1 < (l0.length : Int)
   ·rw [if_pos c3] at H
    have c3b0 : decide (x8_1 < (l0.length : Int)) = true := decide_eq_true c3
    clear c3
    by_cases c4 : 0 ≤ x8_1
    rotate_left
    ·rw [if_neg c4] at H
     exact absurd H (by simp)
    rw [if_pos c4] at H
    have c4b0 : decide (0 ≤ x8_1) = true := decide_eq_true c4
    clear c4
    by_cases c5 : x8_1 < (l0.length : Int)
    rotate_left
    ·rw [if_neg c5] at H
     exact absurd H (by simp)
    rw [if_pos c5] at H
    have c5b0 : decide (x8_1 < (l0.length : Int)) = true := decide_eq_true c5
    clear c5
    by_cases c6 : a1.toList = (rdOf ByteArray.empty l0 x8_1).toList
    ·rw [if_pos c6] at H
     have c6b0 : (a1.toList == (rdOf ByteArray.empty l0 x8_1).toList) = true := beq_iff_eq.mpr c6
     have c6b1 : (a1.toList != (rdOf ByteArray.empty l0 x8_1).toList) = false := bne_eq_false_iff_eq.mpr c6
     clear c6
     obtain rfl := Option.some.inj H
     have p463 : 0 ≤ (x8_1 : Int) := of_decide_eq_true y2_
     have q463 : x8_1 < (l0.length : Int) := of_decide_eq_true y2_
     obtain ⟨ad463, e463, hx463_0⟩ := Kd.at_string HR0.out x8_1 p463 q463
     cases e463
     replace p463 := eq_true p463
     replace q463 := eq_true q463
     go_wp2
     go_ret
     exact ⟨y5_, y3_⟩
    ·rw [if_neg c6] at H
     have c6b0 : (a1.toList == (rdOf ByteArray.empty l0 x8_1).toList) = false := beq_eq_false_iff_ne.mpr c6
     have c6b1 : (a1.toList != (rdOf ByteArray.empty l0 x8_1).toList) = true := bne_iff_ne.mpr c6
     have H' := Aside0.mk H
     clear H
     have p463 : 0 ≤ (x8_1 : Int) := of_decide_eq_true y2_
     have q463 : x8_1 < (l0.length : Int) := of_decide_eq_true y2_
     obtain ⟨ad463, e463, hx463_0⟩ := Kd.at_string HR0.out x8_1 p463 q463
     cases e463
     replace p463 := eq_true p463
     replace q463 := eq_true q463
     go_wp2
     go_roundg k1
     case measure => have := HK1.out; omega
     case rel => exact ⟨(wrap64 (x8_1 + 1)), y5_, H', ⟨by have := HK1.out; omega⟩, y3_⟩
   ·rw [if_neg c3] at H
    have c3b0 : decide (x8_1 < (l0.length : Int)) = false := decide_eq_false c3
    clear c3
    obtain rfl := Option.some.inj H
    go_wp2
    go_ret
    exact ⟨y5_, y3_⟩
end Go.Proofs.YtpnhjipaeggcpaaDoor.X
end
section
namespace Go.Proofs.YtpnhjipaeggcpaaDoor.X
open Go.RowKit Go.Proofs.YtpnhjipaeggcpaaDoorW.PrintWords Go.Proofs.YtpnhjipaeggcpaaDoorW.PrintLast Go.Proofs.YtpnhjipaeggcpaaDoorW.PrintMore
attribute [local go_sem] max2_int min2_int max_two min_two max_three min_three max_four min_four
def slices_Contains_string_string.f (k : Nat) (l0 : List ByteArray) (a1 : ByteArray) : Option (Bool) := (slices_Index_string_string.f k l0 a1).bind fun t464 => (some (decide (t464 ≥ 0)))
set_option maxHeartbeats 8000000 in
set_option maxRecDepth 100000 in
theorem slices_Contains_string_string.calls (k : Nat) (A0 : Option Addr) (c0 : Nat) (l0 : List ByteArray) (a1 : ByteArray) (r : Bool) (w : World) (hr0 : Kd.C Kd.string w A0 l0.length l0) (hc0 : l0.length ≤ c0) (h : slices_Contains_string_string.f k l0 a1 = some r) :
  Calls Tryd.prog 92 #[.slice A0 l0.length c0, .string a1] w fun e w' => e = .returned (.bool r) ∧ Drawn0 w w' := by
 have HR0 := Aside0.mk hr0
 have HC0 := Aside0.mk hc0
 clear hr0 hc0
 have H : ((slices_Index_string_string.f k l0 a1).bind fun t464 => (some (decide (t464 ≥ 0)))) = some r := h
 clear h
 replace H := Option.bind_eq_some_iff.mp H
 obtain ⟨t464, A30, H⟩ := H
 have A3 := Aside0.mk A30
 clear A30
 obtain rfl := Option.some.inj H
 go_enter Tryd.func92, Tryd.ntmps92
 go_wp2_with (first | ((with_reducible refine gate_callee (f := 102) rfl ?_); refine goesL_ (some 7) rfl rfl Tryd.func102 (by kernel_rfl) rfl #[.slice A0 l0.length c0, .string a1] rfl y15_ ?_; (with_reducible refine (slices_Index_string_string.calls k _ _ l0 a1 t464 _ ?side1 ?side2 A3.out).mono ?_); (case side1 => repeat (first | exact HR0.out | (with_reducible refine Kd.C_alloc ?_ _) | (with_reducible refine Kd.C_drewN ?_ _) | (with_reducible refine Kd.C_drew ?_))); (case side2 => exact HC0.out); rintro e w' ⟨rfl, ⟨nd, rfl⟩⟩; refine ⟨_, rfl, ?_⟩))
 go_ret
 exact ⟨y5_, y3_⟩
end Go.Proofs.YtpnhjipaeggcpaaDoor.X
end
section
namespace Go.Proofs.YtpnhjipaeggcpaaDoor.X
open Go.RowKit Go.Shelf Go.Proofs.YtpnhjipaeggcpaaDoorW.PrintWords Go.Proofs.YtpnhjipaeggcpaaDoorW.PrintLast Go.Proofs.YtpnhjipaeggcpaaDoorW.PrintMore
attribute [local go_sem] Oper.semAt_some
def hasB (l : List ByteArray) (s : ByteArray) : Bool := l.any fun x => s.toList == x.toList
theorem contains_loop (l : List ByteArray) (s : ByteArray) (hl : l.length ≤ 9223372036854775807) : ∀ (d j : Nat), j + d = l.length →
    (∀ x ∈ l.take j, (s.toList == x.toList) = false) → ∃ r : Int, slices_Index_string_string.l0 (d + 1) l s (l.length : Int) (j : Int) = some r ∧ decide (r ≥ 0) = hasB l s
  | 0, j, hj, hn => by
    refine ⟨-1, ?_, ?_⟩
    · simp only [slices_Index_string_string.l0]; rw [if_neg (by omega)]
    · have : hasB l s = false := by
        unfold hasB
        rw [List.any_eq_false]
        intro x hx
        rw [List.take_of_length_le (by omega)] at hn
        simp [hn x hx]
      rw [this]; rfl
  | d + 1, j, hj, hn => by
    have hlt : j < l.length := by omega
    have hrd : rdOf ByteArray.empty l (j : Int) = l[j] := by simp [rdOf, hlt]
    by_cases he : s.toList = l[j].toList
    · refine ⟨j, ?_, ?_⟩
      · simp only [slices_Index_string_string.l0]; rw [if_pos (by omega), if_pos (by omega), if_pos (by omega), hrd, if_pos he]
      · have : hasB l s = true := List.any_eq_true.2 ⟨l[j], List.getElem_mem hlt, by simp [he]⟩
        rw [this]; simp
    · obtain ⟨r, h1, h2⟩ := contains_loop l s hl d (j + 1) (by omega) (by
        intro x hx
        rw [List.take_succ_eq_append_getElem hlt] at hx
        rcases List.mem_append.1 hx with h | h
        · exact hn x h
        · obtain rfl : x = l[j] := by simpa using h
          simp [he])
      refine ⟨r, ?_, h2⟩
      rw [show d + 1 + 1 = (d + 1) + 1 from rfl]
      simp only [slices_Index_string_string.l0] at h1 ⊢
      rw [if_pos (by omega), if_pos (by omega), if_pos (by omega), hrd, if_neg he, show wrap64 ((j : Int) + 1) = ((j + 1 : Nat) : Int) by unfold wrap64; omega]
      exact h1
theorem contains_is (l : List ByteArray) (s : ByteArray) (hl : l.length ≤ 9223372036854775807) : slices_Contains_string_string.f (l.length + 1) l s = some (hasB l s) := by
  obtain ⟨r, h1, h2⟩ := contains_loop l s hl l.length 0 (by omega) (by simp)
  unfold slices_Contains_string_string.f slices_Index_string_string.f
  rw [show ((0 : Nat) : Int) = 0 from rfl] at h1
  rw [h1]
  simp only [Option.bind_some]
  rw [h2]
def back (ss : List ByteArray) (k : Nat) : List (Int × ByteArray) := (List.range k).map fun (j : Nat) => (((ss.length : Int) - 1 - (j : Int), ss.getD (ss.length - 1 - j) ⟨#[]⟩) : Int × ByteArray)
theorem back_succ (ss : List ByteArray) (k : Nat) : back ss (k + 1) = back ss k ++ [((ss.length : Int) - 1 - k, ss.getD (ss.length - 1 - k) ⟨#[]⟩)] := by simp [back, List.range_succ]
theorem back_length (ss : List ByteArray) (k : Nat) : (back ss k).length = k := by simp [back]
def foundGo (so wa : List ByteArray) : List ByteArray → Int
  | [] => -1
  | x :: r => if hasB so x = true then (r.length : Int) else if hasB wa x = true then -1 else foundGo so wa r
def build_found.f (op so wa : List ByteArray) : Option Int := some (foundGo so wa op.reverse)
set_option maxRecDepth 100000 in
set_option maxHeartbeats 2000000 in
theorem back1_in (F : Fence) (n : Nat) (hf : F.fn 101) (hro : F.round = none) (hn : 1 ≤ n) (l Bs n₀ cap : Nat) (A : Option Addr) (ss : List ByteArray) (w0 : World) (hw0 : w0.heap.size ≤ n₀) (hC : Kd.C Kd.string w0 A ss.length ss) (hBs : Bs < n₀) (J Jx : List (Int × ByteArray) → World → Prop)
    (hY : ∀ pre x W, J pre W → pre.length < ss.length → YieldAt F (n - 1) Tryd.prog l #[.int .i64 x.1, .string x.2] W fun e W' =>
      (e = .returned (.bool true) ∧ J (pre ++ [x]) W' ∧ Below n₀ W W') ∨ (e = .returned (.bool false) ∧ Jx (pre ++ [x]) W'))
    (W : World) (hb : Below w0.heap.size w0 W) (hc : W.cell? ⟨Bs, 0, none⟩ = some (.slice A ss.length cap)) (h0 : J [] W) :
    CallsIn F n Tryd.prog 101 #[.func (.yield l) #[] #[], .pointer (some ⟨Bs, 0, none⟩)] W fun e W' => (∃ v, e = .returned v) ∧
      ((∃ ys, ys = back ss ss.length ∧ J ys W') ∨ (∃ pre, (∃ k, k ≤ ss.length ∧ pre = back ss k) ∧ Jx pre W')) := by
  have hmax : ss.length ≤ 9223372036854775807 := hC.2.1
  have HC := Aside0.mk hC
  have HW := Aside0.mk hb
  clear hC hb
  refine callsIn_of_wp Tryd.func101 rfl hf ?_ hro
  simp only [Tryd.ntmps101, List.size_toArray, List.length_cons, List.length_nil, Nat.reduceAdd, Nat.reduceSub, Array.replicate_succ, Array.replicate_zero, List.push_toArray, List.append_toArray, List.nil_append, List.cons_append]
  gi_wp2
  gi_loopw [3] (fun i wr => ∃ (k : Nat) (v : Int), i = .int .i64 v ∧ k ≤ ss.length ∧ Aside0 (v = (ss.length : Int) - 1 - k) ∧ -1 ≤ v ∧ v < (ss.length : Int) ∧ Aside0 (J (back ss k) wr) ∧ Aside0 (Below n₀ W wr))
    (fun i _ => (intOf i + 1).toNat)
  case atStart => exact ⟨0, (ss.length : Int) - 1, rfl, Nat.zero_le _, ⟨by omega⟩, by omega, by omega, ⟨h0⟩, ⟨Below.refl _ _⟩⟩
  case round =>
    obtain ⟨k, v, rfl, hk, HV, hv0, hv1, HJ, HB⟩ := hrel
    have hcb := (HB.out.cell (p := ⟨Bs, 0, none⟩) hBs).trans hc
    by_cases hlt : 0 ≤ v
    · obtain ⟨i, rfl⟩ := Int.eq_ofNat_of_zero_le hlt
      have hi : i < ss.length := by omega
      obtain ⟨x, hx, hxe⟩ := getD_at hi
      have HX := Aside0.mk hx
      obtain ⟨ad, e, hcell⟩ := str_at (Kd.C_below HC.out (HW.out.trans (HB.out.mono hw0))) hx
      clear hx hxe
      cases e
      obtain ⟨fn, tmps, assign, body, hy, hR⟩ := hY _ ((i : Int), x) wr HJ.out (by rw [back_length]; have := HV.out; omega)
      dsimp only at hy
      gi_wp2
      refine hR.mono ?_
      have hpre : back ss k ++ [((i : Int), x)] = back ss (k + 1) := by
        rw [back_succ]
        have h1 := HV.out
        have h2 : ss.length - 1 - k = i := by omega
        rw [h2, List.getD_eq_getElem?_getD, HX.out, ← h1]
        try rfl
      have HP := Aside0.mk hpre
      clear hpre
      rintro e W3 (⟨rfl, hJ3, hk3⟩ | ⟨rfl, hJx3⟩)
      · have HJ3 := Aside0.mk hJ3
        have HK3 := Aside0.mk hk3
        clear hJ3 hk3
        gi_wp2
        go_roundw
        case rel => exact ⟨k + 1, (i : Int) - 1, rfl, by have := HV.out; omega, ⟨by have := HV.out; omega⟩, by omega, by omega, ⟨by rw [← HP.out]; exact HJ3.out⟩, ⟨HB.out.trans HK3.out⟩⟩
        case measure => simp [intOf]; try omega
      · have HJ3 := Aside0.mk hJx3
        clear hJx3
        gi_wp2
        refine bodyPost_ret (results_none rfl _ _ _) rfl ?_
        exact ⟨⟨_, rfl⟩, .inr ⟨_, ⟨k + 1, by have := HV.out; omega, HP.out⟩, HJ3.out⟩⟩
    · gi_wp2
      go_end0
      have h1 := HV.out
      obtain rfl : k = ss.length := by omega
      exact ⟨⟨_, rfl⟩, .inl HJ.out⟩
set_option maxHeartbeats 1000000 in
theorem back_in (F : Fence) (n : Nat) (hf : F.fn 91) (hro : F.round = none) (a : Option Addr) (len cap : Nat) (w : World) :
    CallsIn F n Tryd.prog 91 #[.slice a len cap] w fun e w' => e = .returned (.func (.func 101) #[] #[.pointer (some ⟨w.heap.size, 0, none⟩)]) ∧ w' = w.alloc (.cells #[.slice a len cap] 43) := by
  refine callsIn_of_wp Tryd.func91 rfl hf ?_ hro
  simp only [Tryd.ntmps91, List.size_toArray, List.length_cons, List.length_nil, Nat.reduceAdd, Nat.reduceSub, Array.replicate_succ, Array.replicate_zero, List.push_toArray, List.append_toArray, List.nil_append, List.cons_append]
  gi_wp2
  go_ret
  exact ⟨rfl, rfl⟩
theorem contains_any (A : Option Addr) (c : Nat) (l : List ByteArray) (s : ByteArray) (w : World) (hr : Kd.C Kd.string w A l.length l) (hc : l.length ≤ c) :
    Calls Tryd.prog 92 #[.slice A l.length c, .string s] w fun e w' => e = .returned (.bool (hasB l s)) ∧ ∃ n, w' = w.drewN n :=
  (slices_Contains_string_string.calls _ A c l s _ w hr hc (contains_is l s hr.2.1)).mono fun _ _ h => ⟨h.1, h.2.out⟩
theorem foundGo_none (so wa : List ByteArray) : ∀ l : List ByteArray, (∀ x ∈ l, hasB so x = false ∧ hasB wa x = false) → foundGo so wa l = -1
  | [], _ => rfl
  | x :: r, h => by
    have := h x (by simp)
    simp [foundGo, this.1, this.2, foundGo_none so wa r (fun y hy => h y (by simp [hy]))]
theorem foundGo_skip (so wa : List ByteArray) : ∀ (l r : List ByteArray), (∀ x ∈ l, hasB so x = false ∧ hasB wa x = false) → foundGo so wa (l ++ r) = foundGo so wa r
  | [], _, _ => rfl
  | x :: l, r, h => by
    have := h x (by simp)
    simp [foundGo, this.1, this.2, foundGo_skip so wa l r (fun y hy => h y (by simp [hy]))]
theorem back_rev (ss : List ByteArray) (k : Nat) (hk : k ≤ ss.length) : (back ss k).map (·.2) = ss.reverse.take k := by
  apply List.ext_getElem
  · simp [back, hk]
  · intro i h1 h2
    have hi : i < k := by simpa [back] using h1
    simp [back, List.getElem_reverse, show ss.length - 1 - i < ss.length by omega]
theorem found_all (op so wa : List ByteArray) (h : ∀ p ∈ back op op.length, hasB so p.2 = false ∧ hasB wa p.2 = false) : foundGo so wa op.reverse = -1 := by
  refine foundGo_none so wa _ fun x hx => ?_
  have e := back_rev op op.length (Nat.le_refl _)
  rw [List.take_of_length_le (by simp)] at e
  rw [← e] at hx
  obtain ⟨p, hp, rfl⟩ := List.mem_map.1 hx
  exact h p hp
theorem found_some (op so wa : List ByteArray) (k : Nat) (hk : k < op.length) (h : ∀ p ∈ back op k, hasB so p.2 = false ∧ hasB wa p.2 = false) :
    foundGo so wa op.reverse = (if hasB so (op.getD (op.length - 1 - k) ⟨#[]⟩) = true then (op.length : Int) - 1 - k else if hasB wa (op.getD (op.length - 1 - k) ⟨#[]⟩) = true then -1 else foundGo so wa (op.reverse.drop (k + 1))) := by
  have e := back_rev op k (by omega)
  have hlt : k < op.reverse.length := by simpa using hk
  conv => lhs; rw [← List.take_append_drop k op.reverse]
  rw [foundGo_skip so wa _ _ (fun x hx => by rw [← e] at hx; obtain ⟨p, hp, rfl⟩ := List.mem_map.1 hx; exact h p hp), List.drop_eq_getElem_cons hlt]
  simp only [foundGo]
  have e2 : op.reverse[k] = op.getD (op.length - 1 - k) ⟨#[]⟩ := by simp [List.getElem_reverse, List.getD_eq_getElem?_getD, show op.length - 1 - k < op.length by omega]
  rw [e2]
  simp only [List.length_drop, List.length_reverse]
  have e3 : ((op.length - (k + 1) : Nat) : Int) = (op.length : Int) - 1 - k := by omega
  rw [e3]
theorem keepsO_drewN (W : World) (n : Nat) : KeepsOthers W (W.drewN n) := ⟨Nat.le_refl _, fun _ _ h _ => h⟩
theorem bx_drewN {W : World} {B : Nat} {t : TypeId} {v : Value} (h : Boxed W B t v) (n : Nat) : Boxed (W.drewN n) B t v := h
theorem bx_own {W W' : World} {B : Nat} {t : TypeId} {v : Value} {row : Option Nat} (h : Boxed W B t v) (hg : W.grownBy W' row) (hr : ∀ r, row = some r → ∃ o : Obj, W.heap[r]? = some o ∧ o.isCells = false) : Boxed W' B t v :=
  h.kept hg (fun e' => by obtain ⟨o, ho, hc⟩ := hr B e'.symm; rw [show W.heap[B]? = _ from h] at ho; cases ho; cases hc)
set_option maxRecDepth 100000 in
set_option maxHeartbeats 4000000 in
theorem found_in (a0 a1 a2 : Option Addr) (c0 c1 c2 : Nat) (op so wa : List ByteArray) (w : World) (h0 : Kd.C Kd.string w a0 op.length op) (h1 : Kd.C Kd.string w a1 so.length so) (h2 : Kd.C Kd.string w a2 wa.length wa) (l1 : so.length ≤ c1) (l2 : wa.length ≤ c2) :
    CallsIn Fence.wide 3 Tryd.prog 75 #[.slice a0 op.length c0, .slice a1 so.length c1, .slice a2 wa.length c2] w fun e W' => e = .returned (.int .i64 (foundGo so wa op.reverse)) ∧ Below w.heap.size w W' := by
  have H0 := Aside0.mk h0
  have H1 := Aside0.mk h1
  have H2 := Aside0.mk h2
  clear h0 h1 h2
  refine callsIn_of_wp_marks Tryd.func75 rfl trivial ?_ rfl
  simp only [Tryd.ntmps75, List.size_toArray, List.length_cons, List.length_nil, Nat.reduceAdd, Nat.reduceSub, Array.replicate_succ, Array.replicate_zero, List.push_toArray, List.append_toArray, List.nil_append, List.cons_append]
  gi_wp2_with (refine ⟨trivial, ?_⟩; gi_at_call 91; refine (back_in Fence.wide _ trivial rfl _ _ _ _).mono ?_; rintro e w' ⟨rfl, rfl⟩)
  have bS := Boxed.new w 43 (.slice a1 so.length c1)
  have bW := Boxed.new (w.alloc (.cells #[.slice a1 so.length c1] 43)) 43 (.slice a2 wa.length c2)
  have bR := Boxed.new ((w.alloc (.cells #[.slice a1 so.length c1] 43)).alloc (.cells #[.slice a2 wa.length c2] 43)) 3 (.int .i64 0)
  have bN := Boxed.new (((w.alloc (.cells #[.slice a1 so.length c1] 43)).alloc (.cells #[.slice a2 wa.length c2] 43)).alloc (.cells #[.int .i64 0] 3)) 43 (.slice a0 op.length c0)
  simp only [World.size_alloc] at bW bR bN
  obtain ⟨W0, hW0⟩ : ∃ W0, ((((w.alloc (.cells #[.slice a1 so.length c1] 43)).alloc (.cells #[.slice a2 wa.length c2] 43)).alloc (.cells #[.int .i64 0] 3)).alloc (.cells #[.slice a0 op.length c0] 43)) = W0 := ⟨_, rfl⟩
  have hsz : W0.heap.size = w.heap.size + 4 := by rw [← hW0]; simp
  have hB0 : Below w.heap.size w W0 := by rw [← hW0]; exact ((((Below.refl _ w).alloc (Nat.le_refl _) _).alloc (by simp) _).alloc (by simp; omega) _).alloc (by simp; omega) _
  have bS0 : Boxed W0 w.heap.size 43 (.slice a1 so.length c1) := by rw [← hW0]; exact ((bS.alloc _).alloc _).alloc _
  have bW0 : Boxed W0 (w.heap.size + 1) 43 (.slice a2 wa.length c2) := by rw [← hW0]; exact (bW.alloc _).alloc _
  have bR0 : Boxed W0 (w.heap.size + 1 + 1) 3 (.int .i64 0) := by rw [← hW0]; exact bR.alloc _
  have bN0 : Boxed W0 (w.heap.size + 1 + 1 + 1) 43 (.slice a0 op.length c0) := by rw [← hW0]; exact bN
  rw [hW0]
  clear hW0 bS bW bR bN
  refine wpIn_rangeFunc_ownF rfl (by omega) (gf := 101) (lb := #[.pointer (some ⟨w.heap.size + 1 + 1 + 1, 0, none⟩)]) rfl trivial (enters_of Tryd.func101 (by kernel_rfl) rfl)
    (encs := fun x : Int × ByteArray => #[Value.int .i64 x.1, Value.string x.2]) (Kp := Below (w.heap.size + 4)) (S := fun ys => ys = back op op.length) (Sp := fun pre => ∃ k, k ≤ op.length ∧ pre = back op k) (N := op.length) (w0 := W0)
    (fun l J Jx W hW _ _ hY h0 => back1_in Fence.wide _ trivial rfl (by omega) l (w.heap.size + 1 + 1 + 1) (w.heap.size + 4) c0 a0 op w (by omega) H0.out (by omega) J Jx hY W (hB0.trans (hW.mono (by omega))) ((hW.cell (p := ⟨w.heap.size + 1 + 1 + 1, 0, none⟩) (by simp only [hsz]; omega)).trans bN0.cell) h0)
    belowK_t (belowK_b (by omega)) (Below.refl _ _) (fun _ => rfl)
    (fun pre W => ((∀ p ∈ pre, hasB so p.2 = false ∧ hasB wa p.2 = false) ∧ Boxed W w.heap.size 43 (.slice a1 so.length c1) ∧ Boxed W (w.heap.size + 1) 43 (.slice a2 wa.length c2) ∧ Boxed W (w.heap.size + 1 + 1) 3 (.int .i64 0)) ∧ Below w.heap.size w W)
    (fun c pre W => (c = .ret ∧ ∃ ini last, pre = ini ++ [last] ∧ (∀ p ∈ ini, hasB so p.2 = false ∧ hasB wa p.2 = false) ∧ (hasB so last.2 = true ∨ hasB wa last.2 = true) ∧ Boxed W (w.heap.size + 1 + 1) 3 (.int .i64 (if hasB so last.2 = true then last.1 else -1))) ∧ Below w.heap.size w W)
    ?hI ?hIx ⟨⟨by simp, bS0, bW0, bR0⟩, hB0⟩
    (fun x => { tmps := #[.slice a0 op.length c0, .slice a1 so.length c1, .slice a2 wa.length c2, undef, .pointer (some ⟨w.heap.size, 0, none⟩), .pointer (some ⟨w.heap.size + 1, 0, none⟩), .pointer (some ⟨w.heap.size + 1 + 1, 0, none⟩), .int .i64 x.1, .string x.2, .slice a0 op.length c0, .func (.func 101) #[] #[.pointer (some ⟨w.heap.size + 1 + 1 + 1, 0, none⟩)], .int .i64 x.1, .string x.2, undef, undef, undef, undef, undef, undef, undef, undef, undef], defers := [] }) ?assign ?body ?done ?stop
  case hI =>
    exact OwnFrom.and (Own.from (fun s A B row hs hg hr => ⟨hs.1, bx_own hs.2.1 hg hr, bx_own hs.2.2.1 hg hr, bx_own hs.2.2.2 hg hr⟩) _) (ownFrom_below (Nat.le_refl _) (by omega))
  case hIx =>
    exact fun c => OwnFrom.and (Own.from (fun s A B row hs hg hr => by obtain ⟨hc, ini, last, e1, e2, e3, e4⟩ := hs; exact ⟨hc, ini, last, e1, e2, e3, bx_own e4 hg hr⟩) _) (ownFrom_below (Nat.le_refl _) (by omega))
  case assign =>
    intro l x W K hK
    gi_wp2
    exact hK
  case body =>
    rintro l pre x W ⟨⟨hp, b1, b2, b3⟩, hB⟩ _
    have HP := Aside0.mk hp
    have c1_ := b1.cell
    have c2_ := b2.cell
    have c3_ := b3.cell
    have f3_ := b3.frozen
    have B1 := Aside0.mk b1
    have B2 := Aside0.mk b2
    have B3 := Aside0.mk b3
    have HB := Aside0.mk hB
    clear hp b1 b2 b3 hB
    have hc1 := contains_any a1 c1 so x.2 W (Kd.C_below H1.out HB.out) l1
    have hc2 := fun n => contains_any a2 c2 wa x.2 (W.drewN n) (Kd.C_below H2.out (pw_below_drewN HB.out n)) l2
    cases hs : hasB so x.2 with
    | true =>
      rw [hs] at hc1
      have HS := Aside0.mk hs
      clear hs hc2
      gi_wp2_with (refine ⟨trivial, ?_⟩; gi_at_call 92; refine (CallsIn.inRound l (callsIn_wide.2 hc1)).mono ?_; clear hc1; rintro e w' ⟨rfl, n1, rfl⟩)
      refine ⟨(keepsO_drewN W n1).trans (KeepsOthers.setCell _ _ _), ⟨rfl, pre, x, rfl, HP.out, .inl HS.out, ?_⟩, ?_⟩
      · rw [if_pos HS.out]; exact (bx_drewN B3.out n1).set _
      · exact (pw_below_drewN HB.out n1).setCell (p := ⟨w.heap.size + 1 + 1, 0, none⟩) (by simp only; omega) _
    | false =>
      rw [hs] at hc1
      have HS := Aside0.mk hs
      clear hs
      cases hw : hasB wa x.2 with
      | true =>
        rw [hw] at hc2
        have HW := Aside0.mk hw
        clear hw
        gi_wp2_with (first | (refine ⟨trivial, ?_⟩; gi_at_call 92; refine (CallsIn.inRound l (callsIn_wide.2 hc1)).mono ?_; clear hc1; rintro e w' ⟨rfl, n1, rfl⟩) | (refine ⟨trivial, ?_⟩; gi_at_call 92; refine (CallsIn.inRound l (callsIn_wide.2 (hc2 n1))).mono ?_; clear hc2; rintro e w' ⟨rfl, n2, rfl⟩))
        refine ⟨(keepsO_drewN W (n1 + n2)).trans (KeepsOthers.setCell _ _ _), ⟨rfl, pre, x, rfl, HP.out, .inr HW.out, ?_⟩, ?_⟩
        · rw [if_neg (by rw [HS.out]; simp)]; exact (bx_drewN B3.out (n1 + n2)).set _
        · exact (pw_below_drewN HB.out (n1 + n2)).setCell (p := ⟨w.heap.size + 1 + 1, 0, none⟩) (by simp only; omega) _
      | false =>
        rw [hw] at hc2
        have HW := Aside0.mk hw
        clear hw
        gi_wp2_with (first | (refine ⟨trivial, ?_⟩; gi_at_call 92; refine (CallsIn.inRound l (callsIn_wide.2 hc1)).mono ?_; clear hc1; rintro e w' ⟨rfl, n1, rfl⟩) | (refine ⟨trivial, ?_⟩; gi_at_call 92; refine (CallsIn.inRound l (callsIn_wide.2 (hc2 n1))).mono ?_; clear hc2; rintro e w' ⟨rfl, n2, rfl⟩))
        exact ⟨keepsO_drewN W (n1 + n2), pw_below_drewN (Below.refl _ _) (n1 + n2), ⟨fun p hp' => (List.mem_append.1 hp').elim (HP.out p) (fun e => by simp at e; subst e; exact ⟨HS.out, HW.out⟩), bx_drewN B1.out (n1 + n2), bx_drewN B2.out (n1 + n2), bx_drewN B3.out (n1 + n2)⟩, pw_below_drewN HB.out (n1 + n2)⟩
  case done =>
    rintro D ys W hD rfl ⟨⟨hp, b1, b2, b3⟩, hB⟩ hK
    have HP := Aside0.mk hp
    have HB := Aside0.mk hB
    have HK := Aside0.mk hK
    have B3 := Aside0.mk b3
    have c3_ := b3.cell
    have f3_ := b3.frozen
    clear hp b1 b2 b3 hB hK
    gi_wp2
    have hK' := (KeepsOthers.setCell W ⟨w.heap.size + 1 + 1, 0, none⟩ (.int .i64 (-1))).same D _ HK.out rfl
    refine ⟨by simp, .inl ⟨_, _, rfl, run_takeDeferred hK', ?_⟩⟩
    have hc5 := cell_kept (B3.out.set (.int .i64 (-1))).cell (grownBy_putObj' _ D (.deferred none)) (fun r e => by cases e; exact ⟨_, hK', rfl⟩)
    refine ⟨.int .i64 (-1), ?_, by rw [found_all op so wa HP.out], (HB.out.setCell (p := ⟨w.heap.size + 1 + 1, 0, none⟩) (by simp only; omega) _).trans (belowK_b (w := w) (Nat.le_refl _) _ D _ _ (by omega) hK' rfl rfl)⟩
    simp [results, Tryd.f75, go_sem, hc5]
  case stop =>
    rintro D c pre W hD ⟨k, hk, rfl⟩ ⟨⟨rfl, ini, last, e1, e2, e3, b3⟩, hB⟩ hK
    have HB := Aside0.mk hB
    have HK := Aside0.mk hK
    have B3 := Aside0.mk b3
    have E1 := Aside0.mk e1
    have E2 := Aside0.mk e2
    have E3 := Aside0.mk e3
    clear hB hK b3 e1 e2 e3
    gi_wp2
    refine ⟨by simp, .inl ⟨_, _, rfl, run_takeDeferred HK.out, ?_⟩⟩
    have hc5 := cell_kept B3.out.cell (grownBy_putObj' _ D (.deferred none)) (fun r e => by cases e; exact ⟨_, HK.out, rfl⟩)
    have e1 := E1.out
    obtain ⟨k', rfl⟩ : ∃ k', k = k' + 1 := by
      cases k with
      | zero => simp [back] at e1
      | succ k' => exact ⟨k', rfl⟩
    rw [back_succ] at e1
    obtain ⟨rfl, e5⟩ := List.append_inj' e1 rfl
    obtain rfl : (((op.length : Int) - 1 - (k' : Int), op.getD (op.length - 1 - k') ⟨#[]⟩) : Int × ByteArray) = last := by simpa using e5
    refine ⟨.int .i64 (if hasB so (op.getD (op.length - 1 - k') ⟨#[]⟩) = true then (op.length : Int) - 1 - (k' : Int) else -1), ?_, ?_, HB.out.trans (belowK_b (w := w) (Nat.le_refl _) W D _ _ (by omega) HK.out rfl rfl)⟩
    · simp [results, Tryd.f75, go_sem, hc5]
    · rw [found_some op so wa k' (by omega) E2.out]
      rcases E3.out with h | h
      · rw [if_pos h, if_pos h]
      · by_cases h' : hasB so (op.getD (op.length - 1 - k') ⟨#[]⟩) = true
        · rw [if_pos h', if_pos h']
        · rw [if_neg h', if_neg h', if_pos h]
theorem build_found.calls (A0 : Option Addr) (c0 : Nat) (l0 : List ByteArray) (A1 : Option Addr) (c1 : Nat) (l1 : List ByteArray) (A2 : Option Addr) (c2 : Nat) (l2 : List ByteArray) (r : Int) (w : World) (hr0 : Kd.C Kd.string w A0 l0.length l0) (hc0 : l0.length ≤ c0) (hr1 : Kd.C Kd.string w A1 l1.length l1) (hc1 : l1.length ≤ c1) (hr2 : Kd.C Kd.string w A2 l2.length l2) (hc2 : l2.length ≤ c2) (h : build_found.f l0 l1 l2 = some r) :
    Calls Tryd.prog 75 #[.slice A0 l0.length c0, .slice A1 l1.length c1, .slice A2 l2.length c2] w fun e w' => e = .returned (.int .i64 r) ∧ Below w.heap.size w w' := by
  cases h
  exact callsIn_wide.1 (found_in A0 A1 A2 c0 c1 c2 l0 l1 l2 w hr0 hr1 hr2 hc1 hc2)
end Go.Proofs.YtpnhjipaeggcpaaDoor.X
end
section
namespace Go.Proofs.YtpnhjipaeggcpaaDoor.X
open Go.RowKit Go.Proofs.YtpnhjipaeggcpaaDoorW.PrintWords Go.Proofs.YtpnhjipaeggcpaaDoorW.PrintLast Go.Proofs.YtpnhjipaeggcpaaDoorW.PrintMore
attribute [local go_sem] max2_int min2_int max_two min_two max_three min_three max_four min_four
def build_Nested.f (k : Nat) (a0 : ByteArray) (l1 : List ByteArray) : Option (Bool) := (build_paragraph.f a0).bind fun t346 => (if t346 = true then ((names_Walls.f k (⟨#[112]⟩ : ByteArray)).bind fun t350 => ((build_found.f l1 (([(⟨#[112]⟩ : ByteArray)] : List ByteArray)) t350).bind fun t353 => (if t353 ≥ 0 then (some false) else ((names_Closes.f k a0).bind fun t354 => ((names_Walls.f k a0).bind fun t357 => ((build_found.f l1 t354 t357).bind fun t360 => (some (decide (t360 < 0))))))))) else ((names_Closes.f k a0).bind fun t361 => ((names_Walls.f k a0).bind fun t364 => ((build_found.f l1 t361 t364).bind fun t367 => (some (decide (t367 < 0)))))))
set_option maxHeartbeats 8000000 in
set_option maxRecDepth 100000 in
theorem build_Nested.calls (k : Nat) (a0 : ByteArray) (A1 : Option Addr) (c1 : Nat) (l1 : List ByteArray) (r : Bool) (w : World) (hr1 : Kd.C Kd.string w A1 l1.length l1) (hc1 : l1.length ≤ c1) (h : build_Nested.f k a0 l1 = some r) :
  Calls Tryd.prog 55 #[.string a0, .slice A1 l1.length c1] w fun e w' => e = .returned (.bool r) ∧ Below w.heap.size w w' := by
 have HR1 := Aside0.mk hr1
 have HC1 := Aside0.mk hc1
 clear hr1 hc1
 have HB := Aside0.mk (Below.refl w.heap.size w)
 have H : ((build_paragraph.f a0).bind fun t346 => (if t346 = true then ((names_Walls.f k (⟨#[112]⟩ : ByteArray)).bind fun t350 => ((build_found.f l1 (([(⟨#[112]⟩ : ByteArray)] : List ByteArray)) t350).bind fun t353 => (if t353 ≥ 0 then (some false) else ((names_Closes.f k a0).bind fun t354 => ((names_Walls.f k a0).bind fun t357 => ((build_found.f l1 t354 t357).bind fun t360 => (some (decide (t360 < 0))))))))) else ((names_Closes.f k a0).bind fun t361 => ((names_Walls.f k a0).bind fun t364 => ((build_found.f l1 t361 t364).bind fun t367 => (some (decide (t367 < 0)))))))) = some r := h
 clear h
 replace H := Option.bind_eq_some_iff.mp H
 obtain ⟨t346, A30, H⟩ := H
 have A3 := Aside0.mk A30
 clear A30
 by_cases c4 : t346 = true
 ·subst c4
  rw [if_pos rfl] at H
  obtain ⟨y347, hy347⟩ : ∃ y_ : List ByteArray, y_ = (([(⟨#[112]⟩ : ByteArray)] : List ByteArray)) := ⟨_, rfl⟩
  replace H : ((names_Walls.f k (⟨#[112]⟩ : ByteArray)).bind fun t350 => ((build_found.f l1 y347 t350).bind fun t353 => (if t353 ≥ 0 then (some false) else ((names_Closes.f k a0).bind fun t354 => ((names_Walls.f k a0).bind fun t357 => ((build_found.f l1 t354 t357).bind fun t360 => (some (decide (t360 < 0))))))))) = some r := by first | (rw [hy347]; with_reducible exact H) | (have H2_ := (Option.bind_some _ _).symm.trans H; rw [hy347]; with_reducible exact H2_) | (have H2_ := (Option.bind_some _ _).symm.trans H; with_reducible exact H2_) | with_reducible exact H | (rw [hy347]; exact H) | exact H
  have Ny347 := Aside0.mk hy347
  clear hy347
  replace H := Option.bind_eq_some_iff.mp H
  obtain ⟨t350, A50, H⟩ := H
  have A5 := Aside0.mk A50
  clear A50
  replace H := Option.bind_eq_some_iff.mp H
  obtain ⟨t353, A60, H⟩ := H
  have A6 := Aside0.mk A60
  clear A60
  by_cases c7 : t353 ≥ 0
  ·rw [if_pos c7] at H
   have c7b0 : decide (0 ≤ t353) = true := decide_eq_true c7
   clear c7
   obtain rfl := Option.some.inj H
   go_enter Tryd.func55, Tryd.ntmps55
   go_wp2_with (first | ((with_reducible refine gate_callee (f := 74) rfl ?_); refine goesL_ (some 7) rfl rfl Tryd.func74 (by kernel_rfl) rfl #[.string a0] rfl y15_ ?_; (with_reducible refine (build_paragraph.calls a0 true _ A3.out).mono ?_); rintro e w' ⟨rfl, ⟨nd, rfl⟩⟩; refine ⟨_, rfl, ?_⟩) | ((with_reducible refine gate_dst (N := 10) rfl ?_); (try (refine gate_guard (by rfl) ?_; dsimp only)); refine Kd.R_lit Kd.string _ 9 ?hg (N := 10) ?hd (xs := ([(⟨#[112]⟩ : ByteArray)] : List ByteArray)) (inner := [.string (⟨#[112]⟩ : ByteArray)]) (ok := fun _ => True) (okp := fun _ => True) ?hr ?hp (fun _ hk => hk) trivial (Below.refl _ _) (Nat.le_refl _) (by simp) ?_; (case hd => rfl); (case hg => rfl); (case hr => first | (go_simp; done) | (go_simp; rfl)); (case hp => exact (Reps.one (show Kd.M Kd.string _ _ _ (⟨#[112]⟩ : ByteArray) [.string (⟨#[112]⟩ : ByteArray)] from rfl) (Reps.none _ _))); intro v348 w8 ho9 hb hg_ hnew_; clear hg_ hnew_; (first | rw [← Ny347.out] at ho9 | (simp only [Int.reduceToNat] at ho9; rw [← Ny347.out] at ho9)); have n0_ := Aside0.mk (Kd.R_lower ho9 (below_size y14_)); have n1_ := Aside0.mk (below_step y14_ hb); clear HB; have HO349 := n0_; have HB := n1_; clear n0_ n1_; clear hb ho9) | (go_at_call 76; (with_reducible refine (names_Walls.calls k (⟨#[112]⟩ : ByteArray) t350 _ A5.out).mono ?_); rintro e w10 ⟨v351, rfl, ho0, hb⟩; have n0_ := Aside0.mk (Kd.R_elder' (y8_ HO349.out) (Kd.R_base ho0) hb); have n1_ := Aside0.mk (Kd.R_lower (Kd.R_new' ho0 (Kd.R_lt (y8_ HO349.out))) (below_size y14_)); have n2_ := Aside0.mk (below_step y14_ hb); clear HO349; clear HB; have HO349 := n0_; have HO352 := n1_; have HB := n2_; clear n0_ n1_ n2_; (try clear hb); (try clear hb2); (try clear hk); (try clear hi); (try clear ho0); obtain ⟨Ao11, co11, eo11⟩ := Kd.R_slice HO349.out; subst eo11; obtain ⟨Ao12, co12, eo12⟩ := Kd.R_slice HO352.out; subst eo12) | (go_at_call 75; (with_reducible refine (build_found.calls _ _ l1 _ _ y347 _ _ t350 t353 _ ?side1 ?side2 ?side3 ?side4 ?side5 ?side6 A6.out).mono ?_); (case side1 => repeat (first | exact (Kd.C_below HR1.out HB.out) | (with_reducible refine Kd.C_alloc ?_ _) | (with_reducible refine Kd.C_drewN ?_ _) | (with_reducible refine Kd.C_drew ?_))); (case side2 => exact HC1.out); (case side3 => repeat (first | exact (Kd.R_reads' HO349.out).2.2 | (with_reducible refine Kd.C_alloc ?_ _) | (with_reducible refine Kd.C_drewN ?_ _) | (with_reducible refine Kd.C_drew ?_))); (case side4 => exact (Kd.R_reads' HO349.out).2.1); (case side5 => repeat (first | exact (Kd.R_reads' HO352.out).2.2 | (with_reducible refine Kd.C_alloc ?_ _) | (with_reducible refine Kd.C_drewN ?_ _) | (with_reducible refine Kd.C_drew ?_))); (case side6 => exact (Kd.R_reads' HO352.out).2.1); rintro e w13 ⟨rfl, hb⟩; have n0_ := Aside0.mk (Kd.R_below (y8_ HO349.out) hb); have n1_ := Aside0.mk (Kd.R_below (y8_ HO352.out) hb); have n2_ := Aside0.mk (below_step y14_ hb); clear HO349; clear HO352; clear HB; have HO349 := n0_; have HO352 := n1_; have HB := n2_; clear n0_ n1_ n2_; (try clear hb); (try clear hb2); (try clear hk); (try clear hi)))
   go_ret
   exact ⟨y13_, y14_⟩
  ·rw [if_neg c7] at H
   have c7b0 : decide (0 ≤ t353) = false := decide_eq_false c7
   clear c7
   replace H := Option.bind_eq_some_iff.mp H
   obtain ⟨t354, A140, H⟩ := H
   have A14 := Aside0.mk A140
   clear A140
   replace H := Option.bind_eq_some_iff.mp H
   obtain ⟨t357, A150, H⟩ := H
   have A15 := Aside0.mk A150
   clear A150
   replace H := Option.bind_eq_some_iff.mp H
   obtain ⟨t360, A160, H⟩ := H
   have A16 := Aside0.mk A160
   clear A160
   obtain rfl := Option.some.inj H
   go_enter Tryd.func55, Tryd.ntmps55
   go_wp2_with (first | ((with_reducible refine gate_callee (f := 74) rfl ?_); refine goesL_ (some 7) rfl rfl Tryd.func74 (by kernel_rfl) rfl #[.string a0] rfl y15_ ?_; (with_reducible refine (build_paragraph.calls a0 true _ A3.out).mono ?_); rintro e w' ⟨rfl, ⟨nd, rfl⟩⟩; refine ⟨_, rfl, ?_⟩) | ((with_reducible refine gate_dst (N := 10) rfl ?_); (try (refine gate_guard (by rfl) ?_; dsimp only)); refine Kd.R_lit Kd.string _ 9 ?hg (N := 10) ?hd (xs := ([(⟨#[112]⟩ : ByteArray)] : List ByteArray)) (inner := [.string (⟨#[112]⟩ : ByteArray)]) (ok := fun _ => True) (okp := fun _ => True) ?hr ?hp (fun _ hk => hk) trivial (Below.refl _ _) (Nat.le_refl _) (by simp) ?_; (case hd => rfl); (case hg => rfl); (case hr => first | (go_simp; done) | (go_simp; rfl)); (case hp => exact (Reps.one (show Kd.M Kd.string _ _ _ (⟨#[112]⟩ : ByteArray) [.string (⟨#[112]⟩ : ByteArray)] from rfl) (Reps.none _ _))); intro v348 w17 ho18 hb hg_ hnew_; clear hg_ hnew_; (first | rw [← Ny347.out] at ho18 | (simp only [Int.reduceToNat] at ho18; rw [← Ny347.out] at ho18)); have n0_ := Aside0.mk (Kd.R_lower ho18 (below_size y14_)); have n1_ := Aside0.mk (below_step y14_ hb); clear HB; have HO349 := n0_; have HB := n1_; clear n0_ n1_; clear hb ho18) | (go_at_call 76; (with_reducible refine (names_Walls.calls k (⟨#[112]⟩ : ByteArray) t350 _ A5.out).mono ?_); rintro e w19 ⟨v351, rfl, ho0, hb⟩; have n0_ := Aside0.mk (Kd.R_elder' (y8_ HO349.out) (Kd.R_base ho0) hb); have n1_ := Aside0.mk (Kd.R_lower (Kd.R_new' ho0 (Kd.R_lt (y8_ HO349.out))) (below_size y14_)); have n2_ := Aside0.mk (below_step y14_ hb); clear HO349; clear HB; have HO349 := n0_; have HO352 := n1_; have HB := n2_; clear n0_ n1_ n2_; (try clear hb); (try clear hb2); (try clear hk); (try clear hi); (try clear ho0); obtain ⟨Ao20, co20, eo20⟩ := Kd.R_slice HO349.out; subst eo20; obtain ⟨Ao21, co21, eo21⟩ := Kd.R_slice HO352.out; subst eo21) | (go_at_call 75; (with_reducible refine (build_found.calls _ _ l1 _ _ y347 _ _ t350 t353 _ ?side1 ?side2 ?side3 ?side4 ?side5 ?side6 A6.out).mono ?_); (case side1 => repeat (first | exact (Kd.C_below HR1.out HB.out) | (with_reducible refine Kd.C_alloc ?_ _) | (with_reducible refine Kd.C_drewN ?_ _) | (with_reducible refine Kd.C_drew ?_))); (case side2 => exact HC1.out); (case side3 => repeat (first | exact (Kd.R_reads' HO349.out).2.2 | (with_reducible refine Kd.C_alloc ?_ _) | (with_reducible refine Kd.C_drewN ?_ _) | (with_reducible refine Kd.C_drew ?_))); (case side4 => exact (Kd.R_reads' HO349.out).2.1); (case side5 => repeat (first | exact (Kd.R_reads' HO352.out).2.2 | (with_reducible refine Kd.C_alloc ?_ _) | (with_reducible refine Kd.C_drewN ?_ _) | (with_reducible refine Kd.C_drew ?_))); (case side6 => exact (Kd.R_reads' HO352.out).2.1); rintro e w22 ⟨rfl, hb⟩; have n0_ := Aside0.mk (Kd.R_below (y8_ HO349.out) hb); have n1_ := Aside0.mk (Kd.R_below (y8_ HO352.out) hb); have n2_ := Aside0.mk (below_step y14_ hb); clear HO349; clear HO352; clear HB; have HO349 := n0_; have HO352 := n1_; have HB := n2_; clear n0_ n1_ n2_; (try clear hb); (try clear hb2); (try clear hk); (try clear hi)) | (go_at_call 77; (with_reducible refine (names_Closes.calls k a0 t354 _ A14.out).mono ?_); rintro e w23 ⟨v355, rfl, ho0, hb⟩; have n0_ := Aside0.mk (Kd.R_elder' (y8_ HO349.out) (Kd.R_base ho0) hb); have n1_ := Aside0.mk (Kd.R_elder' (y8_ HO352.out) (Kd.R_base ho0) hb); have n2_ := Aside0.mk (Kd.R_lower (Kd.R_new' (Kd.R_new' ho0 (Kd.R_lt (y8_ HO349.out))) (Kd.R_lt (y8_ HO352.out))) (below_size y14_)); have n3_ := Aside0.mk (below_step y14_ hb); clear HO349; clear HO352; clear HB; have HO349 := n0_; have HO352 := n1_; have HO356 := n2_; have HB := n3_; clear n0_ n1_ n2_ n3_; (try clear hb); (try clear hb2); (try clear hk); (try clear hi); (try clear ho0)) | (go_at_call 76; (with_reducible refine (names_Walls.calls k a0 t357 _ A15.out).mono ?_); rintro e w24 ⟨v358, rfl, ho0, hb⟩; have n0_ := Aside0.mk (Kd.R_elder' (y8_ HO349.out) (Kd.R_base ho0) hb); have n1_ := Aside0.mk (Kd.R_elder' (y8_ HO352.out) (Kd.R_base ho0) hb); have n2_ := Aside0.mk (Kd.R_elder' (y8_ HO356.out) (Kd.R_base ho0) hb); have n3_ := Aside0.mk (Kd.R_lower (Kd.R_new' (Kd.R_new' (Kd.R_new' ho0 (Kd.R_lt (y8_ HO349.out))) (Kd.R_lt (y8_ HO352.out))) (Kd.R_lt (y8_ HO356.out))) (below_size y14_)); have n4_ := Aside0.mk (below_step y14_ hb); clear HO349; clear HO352; clear HO356; clear HB; have HO349 := n0_; have HO352 := n1_; have HO356 := n2_; have HO359 := n3_; have HB := n4_; clear n0_ n1_ n2_ n3_ n4_; (try clear hb); (try clear hb2); (try clear hk); (try clear hi); (try clear ho0); obtain ⟨Ao25, co25, eo25⟩ := Kd.R_slice HO356.out; subst eo25; obtain ⟨Ao26, co26, eo26⟩ := Kd.R_slice HO359.out; subst eo26) | (go_at_call 75; (with_reducible refine (build_found.calls _ _ l1 _ _ t354 _ _ t357 t360 _ ?side1 ?side2 ?side3 ?side4 ?side5 ?side6 A16.out).mono ?_); (case side1 => repeat (first | exact (Kd.C_below HR1.out HB.out) | (with_reducible refine Kd.C_alloc ?_ _) | (with_reducible refine Kd.C_drewN ?_ _) | (with_reducible refine Kd.C_drew ?_))); (case side2 => exact HC1.out); (case side3 => repeat (first | exact (Kd.R_reads' HO356.out).2.2 | (with_reducible refine Kd.C_alloc ?_ _) | (with_reducible refine Kd.C_drewN ?_ _) | (with_reducible refine Kd.C_drew ?_))); (case side4 => exact (Kd.R_reads' HO356.out).2.1); (case side5 => repeat (first | exact (Kd.R_reads' HO359.out).2.2 | (with_reducible refine Kd.C_alloc ?_ _) | (with_reducible refine Kd.C_drewN ?_ _) | (with_reducible refine Kd.C_drew ?_))); (case side6 => exact (Kd.R_reads' HO359.out).2.1); rintro e w27 ⟨rfl, hb⟩; have n0_ := Aside0.mk (Kd.R_below (y8_ HO349.out) hb); have n1_ := Aside0.mk (Kd.R_below (y8_ HO352.out) hb); have n2_ := Aside0.mk (Kd.R_below (y8_ HO356.out) hb); have n3_ := Aside0.mk (Kd.R_below (y8_ HO359.out) hb); have n4_ := Aside0.mk (below_step y14_ hb); clear HO349; clear HO352; clear HO356; clear HO359; clear HB; have HO349 := n0_; have HO352 := n1_; have HO356 := n2_; have HO359 := n3_; have HB := n4_; clear n0_ n1_ n2_ n3_ n4_; (try clear hb); (try clear hb2); (try clear hk); (try clear hi)))
   go_ret
   exact ⟨y13_, y14_⟩
 ·replace c4 := Bool.eq_false_iff.mpr c4
  subst c4
  rw [if_neg (show ¬ (false = true) by decide)] at H
  replace H := Option.bind_eq_some_iff.mp H
  obtain ⟨t361, A280, H⟩ := H
  have A28 := Aside0.mk A280
  clear A280
  replace H := Option.bind_eq_some_iff.mp H
  obtain ⟨t364, A290, H⟩ := H
  have A29 := Aside0.mk A290
  clear A290
  replace H := Option.bind_eq_some_iff.mp H
  obtain ⟨t367, A300, H⟩ := H
  have A30 := Aside0.mk A300
  clear A300
  obtain rfl := Option.some.inj H
  go_enter Tryd.func55, Tryd.ntmps55
  go_wp2_with (first | ((with_reducible refine gate_callee (f := 74) rfl ?_); refine goesL_ (some 7) rfl rfl Tryd.func74 (by kernel_rfl) rfl #[.string a0] rfl y15_ ?_; (with_reducible refine (build_paragraph.calls a0 false _ A3.out).mono ?_); rintro e w' ⟨rfl, ⟨nd, rfl⟩⟩; refine ⟨_, rfl, ?_⟩) | (go_at_call 77; (with_reducible refine (names_Closes.calls k a0 t361 _ A28.out).mono ?_); rintro e w31 ⟨v362, rfl, ho0, hb⟩; have n0_ := Aside0.mk (Kd.R_lower ho0 (below_size y14_)); have n1_ := Aside0.mk (below_step y14_ hb); clear HB; have HO363 := n0_; have HB := n1_; clear n0_ n1_; (try clear hb); (try clear hb2); (try clear hk); (try clear hi); (try clear ho0)) | (go_at_call 76; (with_reducible refine (names_Walls.calls k a0 t364 _ A29.out).mono ?_); rintro e w32 ⟨v365, rfl, ho0, hb⟩; have n0_ := Aside0.mk (Kd.R_elder' (y8_ HO363.out) (Kd.R_base ho0) hb); have n1_ := Aside0.mk (Kd.R_lower (Kd.R_new' ho0 (Kd.R_lt (y8_ HO363.out))) (below_size y14_)); have n2_ := Aside0.mk (below_step y14_ hb); clear HO363; clear HB; have HO363 := n0_; have HO366 := n1_; have HB := n2_; clear n0_ n1_ n2_; (try clear hb); (try clear hb2); (try clear hk); (try clear hi); (try clear ho0); obtain ⟨Ao33, co33, eo33⟩ := Kd.R_slice HO363.out; subst eo33; obtain ⟨Ao34, co34, eo34⟩ := Kd.R_slice HO366.out; subst eo34) | (go_at_call 75; (with_reducible refine (build_found.calls _ _ l1 _ _ t361 _ _ t364 t367 _ ?side1 ?side2 ?side3 ?side4 ?side5 ?side6 A30.out).mono ?_); (case side1 => repeat (first | exact (Kd.C_below HR1.out HB.out) | (with_reducible refine Kd.C_alloc ?_ _) | (with_reducible refine Kd.C_drewN ?_ _) | (with_reducible refine Kd.C_drew ?_))); (case side2 => exact HC1.out); (case side3 => repeat (first | exact (Kd.R_reads' HO363.out).2.2 | (with_reducible refine Kd.C_alloc ?_ _) | (with_reducible refine Kd.C_drewN ?_ _) | (with_reducible refine Kd.C_drew ?_))); (case side4 => exact (Kd.R_reads' HO363.out).2.1); (case side5 => repeat (first | exact (Kd.R_reads' HO366.out).2.2 | (with_reducible refine Kd.C_alloc ?_ _) | (with_reducible refine Kd.C_drewN ?_ _) | (with_reducible refine Kd.C_drew ?_))); (case side6 => exact (Kd.R_reads' HO366.out).2.1); rintro e w35 ⟨rfl, hb⟩; have n0_ := Aside0.mk (Kd.R_below (y8_ HO363.out) hb); have n1_ := Aside0.mk (Kd.R_below (y8_ HO366.out) hb); have n2_ := Aside0.mk (below_step y14_ hb); clear HO363; clear HO366; clear HB; have HO363 := n0_; have HO366 := n1_; have HB := n2_; clear n0_ n1_ n2_; (try clear hb); (try clear hb2); (try clear hk); (try clear hi)))
  go_ret
  exact ⟨y13_, y14_⟩
end Go.Proofs.YtpnhjipaeggcpaaDoor.X
end
section
namespace Go.Proofs.YtpnhjipaeggcpaaDoor.X
open Go.RowKit Go.Proofs.YtpnhjipaeggcpaaDoorW.PrintWords Go.Proofs.YtpnhjipaeggcpaaDoorW.PrintLast Go.Proofs.YtpnhjipaeggcpaaDoorW.PrintMore
attribute [local go_sem] max2_int min2_int max_two min_two max_three min_three max_four min_four
def names_Attr.f (k : Nat) (a0 : ByteArray) : Option (Bool) := (names_plain.f k a0 (⟨#[47, 62, 34, 39, 60, 61]⟩ : ByteArray)).bind fun t368 => (some t368)
set_option maxHeartbeats 8000000 in
set_option maxRecDepth 100000 in
theorem names_Attr.calls (k : Nat) (a0 : ByteArray) (r : Bool) (w : World) (h : names_Attr.f k a0 = some r) :
  Calls Tryd.prog 56 #[.string a0] w fun e w' => e = .returned (.bool r) ∧ Drawn0 w w' := by
 have H : ((names_plain.f k a0 (⟨#[47, 62, 34, 39, 60, 61]⟩ : ByteArray)).bind fun t368 => (some t368)) = some r := h
 clear h
 replace H := Option.bind_eq_some_iff.mp H
 obtain ⟨t368, A20, H⟩ := H
 have A2 := Aside0.mk A20
 clear A20
 obtain rfl := Option.some.inj H
 go_enter Tryd.func56, Tryd.ntmps56
 go_wp2_with (first | ((with_reducible refine gate_callee (f := 72) rfl ?_); refine goesL_ (some 4) rfl rfl Tryd.func72 (by kernel_rfl) rfl #[.string a0, .string (⟨#[47, 62, 34, 39, 60, 61]⟩ : ByteArray)] rfl y15_ ?_; (with_reducible refine (names_plain.calls k a0 (⟨#[47, 62, 34, 39, 60, 61]⟩ : ByteArray) t368 _ A2.out).mono ?_); rintro e w' ⟨rfl, ⟨nd, rfl⟩⟩; refine ⟨_, rfl, ?_⟩))
 go_ret
 exact ⟨y5_, y3_⟩
end Go.Proofs.YtpnhjipaeggcpaaDoor.X
end
