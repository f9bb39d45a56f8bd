/- A part of a proof, put together by this session's own program out of its texts. -/
import Derived.Test.YtpnhjipaeggcpaaDoorC1
import Derived.Test.YtpnhjipaeggcpaaDoorProg
import Derived.Shelf.Unicode.DecodeSlow
import Derived.RangeFuncBox
import Derived.RangeFuncLeaves
import Derived.RangeFuncCalls
import Derived.RangeFuncWrites
import Derived.Shelf.Abstract
import Derived.OwnWalkIn
import Derived.TacticsInMore
import Derived.LoopNIn
import Derived.LoopIn
import Derived.Sort.QuietIn
set_option linter.unusedVariables false
set_option linter.unusedSimpArgs false
namespace Go.Proofs.YtpnhjipaeggcpaaDoor.X
theorem y0_ {p q0 : Prop} (a0 : q0) (t : q0 → p := by intro h0_; rw [h0_, List.length_take]; omega) : p := t a0
theorem y1_ {p : Prop} (t : p := by first | omega | exact Nat.le_refl _) : p := t
theorem y2_ {p : Prop} (t : p := by first | (with_reducible assumption) | assumption) : p := t
theorem y3_ {p : Prop} (t : p := by repeat (first | exact Drawn0.refl _ | apply Drawn0.step)) : p := t
theorem y4_ {p : Prop} (t : p := by first | rfl | (simp; done) | (simp [*]; done) | (simp [bne_nil8]; done)) : p := t
theorem y5_ {p q0 : Prop} (a0 : q0) (t : q0 → p := by intro h0_; have := World.block_lt_of_cell? _ _ h0_; first | rwa [add_block] at this | exact this) : p := t a0
theorem y6_ {p : Prop} (t : p := by simp only [putAll, Act.put, List.setIfInBounds_toArray, List.set_cons_zero, List.set_cons_succ]) : p := t
theorem y7_ {p q0 : Prop} (a0 : q0) (t : q0 → p := by intro h0_; (with_reducible repeat (first | apply Kd.R_alloc | apply Kd.R_drewN | apply Kd.R_drew)); exact h0_) : p := t a0
theorem y8_ {p q0 : Prop} (a0 : q0) (t : q0 → p := by intro h0_; (with_reducible repeat (first | apply Kd.V_alloc | apply Kd.V_drewN | apply Kd.V_drew)); exact h0_) : p := t a0
theorem y9_ {p q0 : Prop} (a0 : q0) (t : q0 → p := by intro h0_; (with_reducible repeat (first | apply Kd.N_alloc | apply Kd.N_drewN | apply Kd.N_drew)); exact h0_) : p := t a0
theorem y10_ {p q0 : Prop} (a0 : q0) (t : q0 → p := by intro h0_; (with_reducible repeat (first | refine blk_drewN ?_ _ | refine blk_drew ?_ | refine blk_alloc ?_ _)); exact h0_) : p := t a0
theorem y11_ {p : Prop} (t : p := by first | rfl | (simp [errW_none, errW_some] <;> rfl) | (simp [*, errW_none, errW_some] <;> rfl) | (simp [bne_nil8]; done)) : p := t
theorem y12_ {p : Prop} (t : p := by first | rfl | (simp; done) | (simp only [← hji27] <;> (first | rfl | simp)) | (simp [*]; done) | (simp [bne_nil8]; done)) : p := t
theorem y13_ {p : Prop} (t : p := by repeat (first | (with_reducible first | exact HB.out | apply below_alloc | apply pw_below_drewN | apply below_drew1) | exact HB.out)) : p := t
theorem y14_ {p : Prop} (t : p := by (try simp only [List.map_toArray, List.map_cons, List.map_nil]); first | done | rfl | (simp only [List.length_drop, List.length_take]; rfl)) : p := t
theorem y15_ {p : Prop} (t : p := by first | exact Kd.R_nil _ _ _ _ _ | exact Kd.N_nil _ _ _ _ _ | exact Kd.V_nil _ _ _ _ _ | exact Kd.Q_nil _ _ _ _ _ | exact Kd.S_nil _ _ _ _ _) : p := t
theorem y16_ {p q0 : Prop} (a0 : q0) (t : q0 → p := by intro h0_; (with_reducible repeat (first | apply Kd.V_alloc | apply Kd.V_drewN | apply Kd.V_drew)); exact Kd.V_mono h0_ (fun _ hk => ⟨⟨hk.1, hk.2.2⟩, hk.2.1⟩)) : p := t a0
theorem y17_ {p q0 : Prop} (a0 : q0) (t : q0 → p := by intro h0_; repeat (first | (with_reducible first | exact HB.out | apply below_alloc | apply pw_below_drewN | apply below_drew1 | refine below_set ?_ h0_) | exact HB.out)) : p := t a0
theorem y18_ {p q0 : Prop} (a0 : q0) (t : q0 → p := by intro h0_; rw [hw]; exact (by repeat (first | (with_reducible first | exact HB.out | apply below_alloc | apply pw_below_drewN | apply below_drew1 | refine below_set ?_ h0_) | exact HB.out))) : p := t a0
theorem y19_ {p q0 q1 : Prop} (a0 : q0) (a1 : q1) (t : q0 → q1 → p := by intro h0_ h1_; repeat (first | (with_reducible first | exact HB.out | apply below_alloc | apply pw_below_drewN | apply below_drew1 | refine below_set ?_ h0_ | refine below_set ?_ h1_) | exact HB.out)) : p := t a0 a1
theorem y20_ {p : Prop} (t : p := by repeat (first | (with_reducible first | exact HB.out | apply below_alloc | apply pw_below_drewN | apply below_drew1) | exact HB.out | (refine below_set ?_ (Aside0.out (by assumption))))) : p := t
theorem y21_ {p : Prop} (t : p := by first | rfl | (simp [errW_none, errW_some] <;> rfl) | (simp only [← hji15]; first | rfl | (simp [errW_none, errW_some] <;> rfl)) | (simp [*, errW_none, errW_some] <;> rfl) | (simp [bne_nil8]; done)) : p := t
theorem y22_ {p : Prop} (t : p := by first | rfl | (simp [errW_none, errW_some] <;> rfl) | (simp only [← hji16]; first | rfl | (simp [errW_none, errW_some] <;> rfl)) | (simp [*, errW_none, errW_some] <;> rfl) | (simp [bne_nil8]; done)) : p := t
theorem y23_ {p q0 q1 q2 : Prop} (a0 : q0) (a1 : q1) (a2 : q2) (t : q0 → q1 → q2 → p := by intro h0_ h1_ h2_; repeat (first | (with_reducible first | exact HB.out | apply below_alloc | apply pw_below_drewN | apply below_drew1 | refine below_set ?_ h0_ | refine below_set ?_ h1_ | refine below_set ?_ h2_) | exact HB.out)) : p := t a0 a1 a2
theorem y24_ {p q0 : Prop} (a0 : q0) (t : q0 → p := by intro h0_; (with_reducible repeat (first | apply Kd.V_alloc | apply Kd.V_drewN | apply Kd.V_drew)); exact Kd.V_mono (Kd.V_far (p := ⟨gb105, 4, none⟩) (Kd.V_mono h0_ (fun k_ hk => (⟨hk, hk.2.2⟩ : _ ∧ k_ ≠ gb105))) (fun _ hk => hk.2) (.slice A104_4 y106.length c104_4)) (fun _ hk => ⟨hk.1.1, ⟨hk.1.2.1, hk.1.2.2⟩⟩)) : p := t a0
theorem y25_ {p q0 : Prop} (a0 : q0) (t : q0 → p := by intro h0_; rw [hw]; exact (by (with_reducible repeat (first | apply Kd.V_alloc | apply Kd.V_drewN | apply Kd.V_drew)); exact Kd.V_mono (Kd.V_far (p := ⟨gb105, 4, none⟩) (Kd.V_mono h0_ (fun k_ hk => (⟨hk, hk.2.2⟩ : _ ∧ k_ ≠ gb105))) (fun _ hk => hk.2) (.slice A104_4 y106.length c104_4)) (fun _ hk => ⟨hk.1.1, ⟨hk.1.2.1, hk.1.2.2⟩⟩))) : p := t a0
theorem y26_ {p q0 q1 : Prop} (a0 : q0) (a1 : q1) (t : q0 → q1 → p := by intro h0_ h1_; (with_reducible repeat (first | refine blk_drewN ?_ _ | refine blk_drew ?_ | refine blk_alloc ?_ _)); refine blk_far ?_ h0_ _; (with_reducible repeat (first | refine blk_drewN ?_ _ | refine blk_drew ?_ | refine blk_alloc ?_ _)); refine blk_far ?_ h0_ _; (with_reducible repeat (first | refine blk_drewN ?_ _ | refine blk_drew ?_ | refine blk_alloc ?_ _)); exact h1_) : p := t a0 a1
theorem y27_ {p q0 : Prop} (a0 : q0) (t : q0 → p := by intro h0_; (with_reducible repeat (first | refine blk_drewN ?_ _ | refine blk_drew ?_ | refine blk_alloc ?_ _)); refine blk_put (cs := #[.string ((rd_T41 l0_4 x32_2).f0), .string (⟨#[]⟩ : ByteArray)]) ?_ 1 _ rfl; (with_reducible repeat (first | refine blk_drewN ?_ _ | refine blk_drew ?_ | refine blk_alloc ?_ _)); refine blk_put (cs := #[.string (⟨#[]⟩ : ByteArray), .string (⟨#[]⟩ : ByteArray)]) ?_ 0 _ rfl; (with_reducible repeat (first | refine blk_drewN ?_ _ | refine blk_drew ?_ | refine blk_alloc ?_ _)); exact h0_) : p := t a0
theorem y28_ {p q0 q1 : Prop} (a0 : q0) (a1 : q1) (t : q0 → q1 → p := by intro h0_ h1_; first | exact Nat.ne_of_lt (Nat.lt_of_lt_of_le (by have := World.block_lt_of_cell? _ _ h0_; first | rwa [add_block] at this | exact this) h1_) | (rw [add_block]; exact Nat.ne_of_lt (Nat.lt_of_lt_of_le (by have := World.block_lt_of_cell? _ _ h0_; first | rwa [add_block] at this | exact this) h1_)) | (show (Addr.add _ _).block ≠ _; rw [add_block]; exact Nat.ne_of_lt (Nat.lt_of_lt_of_le (by have := World.block_lt_of_cell? _ _ h0_; first | rwa [add_block] at this | exact this) h1_)) | (dsimp only; exact Nat.ne_of_lt (Nat.lt_of_lt_of_le (by have := World.block_lt_of_cell? _ _ h0_; first | rwa [add_block] at this | exact this) h1_))) : p := t a0 a1
theorem y29_ {p q0 : Prop} (a0 : q0) (t : q0 → p := by intro h0_; (with_reducible repeat (first | apply Kd.V_alloc | apply Kd.V_drewN | apply Kd.V_drew)); exact Kd.V_mono (Kd.V_far (p := ⟨gb105, 4, none⟩) (Kd.V_far (p := ⟨gb105, 3, none⟩) (Kd.V_far (p := ⟨gb105, 2, none⟩) (Kd.V_far (p := ⟨gb105, 1, none⟩) (Kd.V_far (p := ⟨gb105, 0, none⟩) (Kd.V_mono h0_ (fun k_ hk => (⟨hk, hk.2⟩ : _ ∧ k_ ≠ gb105))) (fun _ hk => hk.2) (.int .i64 ((rd_T35 l0 x4_1).f0))) (fun _ hk => hk.2) (.int .i64 ((rd_T35 l0 x4_1).f1))) (fun _ hk => hk.2) (.string ((rd_T35 l0 x4_1).f2))) (fun _ hk => hk.2) (.string ((rd_T35 l0 x4_1).f3))) (fun _ hk => hk.2) (.slice A104_4 ((rd_T35 l0 x4_1).f4).length c104_4)) (fun _ hk => ⟨hk.1.1.1, ⟨hk.1.1.2, hk.1.2⟩⟩)) : p := t a0
theorem y30_ {p q0 : Prop} (a0 : q0) (t : q0 → p := by intro h0_; rw [hw]; exact (by (with_reducible repeat (first | apply Kd.V_alloc | apply Kd.V_drewN | apply Kd.V_drew)); exact Kd.V_mono (Kd.V_far (p := ⟨gb105, 4, none⟩) (Kd.V_far (p := ⟨gb105, 3, none⟩) (Kd.V_far (p := ⟨gb105, 2, none⟩) (Kd.V_far (p := ⟨gb105, 1, none⟩) (Kd.V_far (p := ⟨gb105, 0, none⟩) (Kd.V_mono h0_ (fun k_ hk => (⟨hk, hk.2⟩ : _ ∧ k_ ≠ gb105))) (fun _ hk => hk.2) (.int .i64 ((rd_T35 l0 x4_1).f0))) (fun _ hk => hk.2) (.int .i64 ((rd_T35 l0 x4_1).f1))) (fun _ hk => hk.2) (.string ((rd_T35 l0 x4_1).f2))) (fun _ hk => hk.2) (.string ((rd_T35 l0 x4_1).f3))) (fun _ hk => hk.2) (.slice A104_4 ((rd_T35 l0 x4_1).f4).length c104_4)) (fun _ hk => ⟨hk.1.1.1, ⟨hk.1.1.2, hk.1.2⟩⟩))) : p := t a0
theorem y31_ {p q0 : Prop} (a0 : q0) (t : q0 → p := by intro h0_; (with_reducible repeat (first | refine blk_drewN ?_ _ | refine blk_drew ?_ | refine blk_alloc ?_ _)); refine blk_put (cs := #[.int .i64 ((rd_T35 l0 a1).f0), .int .i64 ((rd_T35 l0 a1).f1), .string ((rd_T35 l0 a1).f2), .string ((rd_T35 l0 a1).f3), .slice none 0 0]) ?_ 4 _ rfl; (with_reducible repeat (first | refine blk_drewN ?_ _ | refine blk_drew ?_ | refine blk_alloc ?_ _)); refine blk_put (cs := #[.int .i64 ((rd_T35 l0 a1).f0), .int .i64 ((rd_T35 l0 a1).f1), .string ((rd_T35 l0 a1).f2), .string (⟨#[]⟩ : ByteArray), .slice none 0 0]) ?_ 3 _ rfl; (with_reducible repeat (first | refine blk_drewN ?_ _ | refine blk_drew ?_ | refine blk_alloc ?_ _)); refine blk_put (cs := #[.int .i64 ((rd_T35 l0 a1).f0), .int .i64 ((rd_T35 l0 a1).f1), .string (⟨#[]⟩ : ByteArray), .string (⟨#[]⟩ : ByteArray), .slice none 0 0]) ?_ 2 _ rfl; (with_reducible repeat (first | refine blk_drewN ?_ _ | refine blk_drew ?_ | refine blk_alloc ?_ _)); refine blk_put (cs := #[.int .i64 ((rd_T35 l0 a1).f0), .int .i64 0, .string (⟨#[]⟩ : ByteArray), .string (⟨#[]⟩ : ByteArray), .slice none 0 0]) ?_ 1 _ rfl; (with_reducible repeat (first | refine blk_drewN ?_ _ | refine blk_drew ?_ | refine blk_alloc ?_ _)); refine blk_put (cs := #[.int .i64 0, .int .i64 0, .string (⟨#[]⟩ : ByteArray), .string (⟨#[]⟩ : ByteArray), .slice none 0 0]) ?_ 0 _ rfl; (with_reducible repeat (first | refine blk_drewN ?_ _ | refine blk_drew ?_ | refine blk_alloc ?_ _)); exact h0_) : p := t a0
theorem y32_ {p q0 : Prop} (a0 : q0) (t : q0 → p := by intro h0_; (with_reducible repeat (first | refine blk_drewN ?_ _ | refine blk_drew ?_ | refine blk_alloc ?_ _)); refine blk_put (cs := #[.int .i64 ((rd_T35 l0 x18_2).f0), .int .i64 ((rd_T35 l0 x18_2).f1), .string ((rd_T35 l0 x18_2).f2), .string ((rd_T35 l0 x18_2).f3), .slice none 0 0]) ?_ 4 _ rfl; (with_reducible repeat (first | refine blk_drewN ?_ _ | refine blk_drew ?_ | refine blk_alloc ?_ _)); refine blk_put (cs := #[.int .i64 ((rd_T35 l0 x18_2).f0), .int .i64 ((rd_T35 l0 x18_2).f1), .string ((rd_T35 l0 x18_2).f2), .string (⟨#[]⟩ : ByteArray), .slice none 0 0]) ?_ 3 _ rfl; (with_reducible repeat (first | refine blk_drewN ?_ _ | refine blk_drew ?_ | refine blk_alloc ?_ _)); refine blk_put (cs := #[.int .i64 ((rd_T35 l0 x18_2).f0), .int .i64 ((rd_T35 l0 x18_2).f1), .string (⟨#[]⟩ : ByteArray), .string (⟨#[]⟩ : ByteArray), .slice none 0 0]) ?_ 2 _ rfl; (with_reducible repeat (first | refine blk_drewN ?_ _ | refine blk_drew ?_ | refine blk_alloc ?_ _)); refine blk_put (cs := #[.int .i64 ((rd_T35 l0 x18_2).f0), .int .i64 0, .string (⟨#[]⟩ : ByteArray), .string (⟨#[]⟩ : ByteArray), .slice none 0 0]) ?_ 1 _ rfl; (with_reducible repeat (first | refine blk_drewN ?_ _ | refine blk_drew ?_ | refine blk_alloc ?_ _)); refine blk_put (cs := #[.int .i64 0, .int .i64 0, .string (⟨#[]⟩ : ByteArray), .string (⟨#[]⟩ : ByteArray), .slice none 0 0]) ?_ 0 _ rfl; (with_reducible repeat (first | refine blk_drewN ?_ _ | refine blk_drew ?_ | refine blk_alloc ?_ _)); exact h0_) : p := t a0
theorem y33_ {p q0 : Prop} (a0 : q0) (t : q0 → p := by intro h0_; rw [hw]; exact (by (with_reducible repeat (first | refine blk_drewN ?_ _ | refine blk_drew ?_ | refine blk_alloc ?_ _)); refine blk_put (cs := #[.int .i64 ((rd_T35 l0 x18_2).f0), .int .i64 ((rd_T35 l0 x18_2).f1), .string ((rd_T35 l0 x18_2).f2), .string ((rd_T35 l0 x18_2).f3), .slice none 0 0]) ?_ 4 _ rfl; (with_reducible repeat (first | refine blk_drewN ?_ _ | refine blk_drew ?_ | refine blk_alloc ?_ _)); refine blk_put (cs := #[.int .i64 ((rd_T35 l0 x18_2).f0), .int .i64 ((rd_T35 l0 x18_2).f1), .string ((rd_T35 l0 x18_2).f2), .string (⟨#[]⟩ : ByteArray), .slice none 0 0]) ?_ 3 _ rfl; (with_reducible repeat (first | refine blk_drewN ?_ _ | refine blk_drew ?_ | refine blk_alloc ?_ _)); refine blk_put (cs := #[.int .i64 ((rd_T35 l0 x18_2).f0), .int .i64 ((rd_T35 l0 x18_2).f1), .string (⟨#[]⟩ : ByteArray), .string (⟨#[]⟩ : ByteArray), .slice none 0 0]) ?_ 2 _ rfl; (with_reducible repeat (first | refine blk_drewN ?_ _ | refine blk_drew ?_ | refine blk_alloc ?_ _)); refine blk_put (cs := #[.int .i64 ((rd_T35 l0 x18_2).f0), .int .i64 0, .string (⟨#[]⟩ : ByteArray), .string (⟨#[]⟩ : ByteArray), .slice none 0 0]) ?_ 1 _ rfl; (with_reducible repeat (first | refine blk_drewN ?_ _ | refine blk_drew ?_ | refine blk_alloc ?_ _)); refine blk_put (cs := #[.int .i64 0, .int .i64 0, .string (⟨#[]⟩ : ByteArray), .string (⟨#[]⟩ : ByteArray), .slice none 0 0]) ?_ 0 _ rfl; (with_reducible repeat (first | refine blk_drewN ?_ _ | refine blk_drew ?_ | refine blk_alloc ?_ _)); exact h0_)) : p := t a0
theorem y34_ {p q0 q1 : Prop} (a0 : q0) (a1 : q1) (t : q0 → q1 → p := by intro h0_ h1_; first | exact Nat.ne_of_lt (Nat.lt_of_lt_of_le (y5_ h0_) h1_) | (rw [add_block]; exact Nat.ne_of_lt (Nat.lt_of_lt_of_le (y5_ h0_) h1_)) | (show (Addr.add _ _).block ≠ _; rw [add_block]; exact Nat.ne_of_lt (Nat.lt_of_lt_of_le (y5_ h0_) h1_)) | (dsimp only; exact Nat.ne_of_lt (Nat.lt_of_lt_of_le (y5_ h0_) h1_))) : p := t a0 a1
end Go.Proofs.YtpnhjipaeggcpaaDoor.X
section
namespace Go.Proofs.YtpnhjipaeggcpaaDoor.X
open Go.RowKit
theorem bne_nil8 (l : List UInt8) : (l != []) = !l.isEmpty := by cases l <;> rfl
theorem lit_size (l : List UInt8) : (ByteArray.mk (List.toArray l)).size = l.length := rfl
def WF (w : World) : Prop :=
  Lib.Utf8Tabs 0 1 w ∧ ∃ m : Int, w.cell? ⟨2, 0, none⟩ = some (.int .i64 m)
theorem WF.below {w w1 : World} (h : WF w) (hb : Below w.heap.size w w1) : WF w1 := by
  obtain ⟨h1, m, hm⟩ := h
  exact ⟨Utf8Tabs_below h1 hb, m, (hb.cell (World.block_lt_of_cell? w _ hm)).trans hm⟩
end Go.Proofs.YtpnhjipaeggcpaaDoor.X
end
section
namespace Go.Proofs.YtpnhjipaeggcpaaDoor.X
open Go.RowKit Go.Proofs.YtpnhjipaeggcpaaDoorW.PrintWords Go.Proofs.YtpnhjipaeggcpaaDoorW.PrintLast Go.Proofs.YtpnhjipaeggcpaaDoorW.PrintMore
attribute [local go_sem] max2_int min2_int max_two min_two max_three min_three max_four min_four
def errW : Option Int → Value
  | none => .nilIface
  | some c => .iface 0 (.int .i64 c)
theorem errW_none : errW none = .nilIface := rfl
theorem errW_some (c : Int) : errW (some c) = .iface 0 (.int .i64 c) := rfl
theorem info5 : (Tryd.prog.info? 5).map (fun i => (i.zero, i.size, i.bytes)) = some (some (.int .u8 0), 1, 1) := by kernel_rfl
theorem info9 : (Tryd.prog.info? 9).map (fun i => (i.zero, i.size, i.bytes)) = some (some (.string ⟨#[]⟩), 1, 16) := by kernel_rfl
theorem info35 : (Tryd.prog.info? 35).map (fun i => (i.zero, i.size, i.bytes)) = some (some (.agg #[(.int .i64 0), (.int .i64 0), (.string ⟨#[]⟩), (.string ⟨#[]⟩), (.slice none 0 0)]), 5, 72) := by kernel_rfl
theorem info41 : (Tryd.prog.info? 41).map (fun i => (i.zero, i.size, i.bytes)) = some (some (.agg #[(.string ⟨#[]⟩), (.string ⟨#[]⟩)]), 2, 32) := by kernel_rfl
structure S41 where
  f0 : ByteArray
  f1 : ByteArray
def z41 : S41 := ⟨(⟨#[]⟩ : ByteArray), (⟨#[]⟩ : ByteArray)⟩
def k41 : Kd S41 := Kd.iso (Kd.pair Kd.string Kd.string) (fun x : S41 => (x.f0, x.f1))
theorem k41_heap : Kd.Heap k41 := Kd.heap_iso _ (Kd.heap_pair Kd.heap_string Kd.heap_string)
theorem k41_open {w : World} {x : S41} {cs : List Value} (h : k41.K w x cs) : cs = [.string x.f0, .string x.f1] := by
  obtain ⟨_, _, rfl, rfl, rfl⟩ := h
  exact rfl
theorem k41_mk (w : World) (x : S41)  : k41.K w x [.string x.f0, .string x.f1] := ⟨[.string x.f0], [.string x.f1], rfl, rfl, rfl⟩
theorem k41_mkM (w : World) (base : Nat) (ok : Nat → Prop) (x : S41)  : k41.M w base ok x [.string x.f0, .string x.f1] := ⟨[.string x.f0], [.string x.f1], rfl, rfl, rfl⟩
def rd_T41 (xs : List S41) (i : Int) : S41 := xs.getD i.toNat z41
theorem at_T41 {w : World} {A : Option Addr} {n : Nat} {xs : List S41} (h : Kd.C k41 w A n xs) (i : Int) (h0 : 0 ≤ i) (h1 : i < n) : ∃ ad , A = some ad ∧ w.cell? (ad.add (i.toNat * 2)) = some (.string (rd_T41 xs i).f0) ∧ w.cell? ⟨(ad.add (i.toNat * 2)).block, (ad.add (i.toNat * 2)).off + 1, none⟩ = some (.string (rd_T41 xs i).f1) := by
  obtain ⟨ad, c, e, _, hK, hc0⟩ := Kd.C_get h z41 i h0 h1
  have hc : ∀ j u, c[j]? = some u → w.cell? (ad.add (i.toNat * 2 + j)) = some u := hc0
  obtain rfl := k41_open hK
  exact ⟨ad, e, hc 0 _ rfl, by rw [← add_field _ _ 1 (by omega)]; exact hc 1 _ rfl⟩
structure S35 where
  f0 : Int
  f1 : Int
  f2 : ByteArray
  f3 : ByteArray
  f4 : (List S41)
def z35 : S35 := ⟨(0 : Int), (0 : Int), (⟨#[]⟩ : ByteArray), (⟨#[]⟩ : ByteArray), ([] : List S41)⟩
def k35 : Kd S35 := Kd.iso (Kd.pair (Kd.int .i64) (Kd.pair (Kd.int .i64) (Kd.pair Kd.string (Kd.pair Kd.string (Kd.slice 41 k41))))) (fun x : S35 => (x.f0, x.f1, x.f2, x.f3, x.f4))
theorem k35_heap : Kd.Heap k35 := Kd.heap_iso _ (Kd.heap_pair (Kd.heap_int .i64) (Kd.heap_pair (Kd.heap_int .i64) (Kd.heap_pair Kd.heap_string (Kd.heap_pair Kd.heap_string (Kd.heap_slice 41 k41_heap)))))
theorem k35_open {w : World} {x : S35} {cs : List Value} (h : k35.K w x cs) : ∃ A4 c4, cs = [.int .i64 x.f0, .int .i64 x.f1, .string x.f2, .string x.f3, .slice A4 x.f4.length c4] ∧ x.f4.length ≤ c4 ∧ k41.C w A4 x.f4.length x.f4 := by
  obtain ⟨_, _, rfl, rfl, ⟨_, _, rfl, rfl, ⟨_, _, rfl, rfl, ⟨_, _, rfl, rfl, ⟨A4, c4, rfl, l4, g4⟩⟩⟩⟩⟩ := h
  exact ⟨A4, c4, rfl, l4, g4⟩
theorem k35_openM {w : World} {base : Nat} {ok : Nat → Prop} {x : S35} {cs : List Value} (h : k35.M w base ok x cs) : ∃ v4, cs = [.int .i64 x.f0, .int .i64 x.f1, .string x.f2, .string x.f3, v4] ∧ k41.R 41 w base ok v4 x.f4 := by
  obtain ⟨_, _, rfl, rfl, ⟨_, _, rfl, rfl, ⟨_, _, rfl, rfl, ⟨_, _, rfl, rfl, ⟨v4, rfl, g4⟩⟩⟩⟩⟩ := h
  exact ⟨v4, rfl, g4⟩
theorem k35_mk (w : World) (x : S35) {A4 : Option Addr} {c4 : Nat} (l4 : x.f4.length ≤ c4) (g4 : k41.C w A4 x.f4.length x.f4) : k35.K w x [.int .i64 x.f0, .int .i64 x.f1, .string x.f2, .string x.f3, .slice A4 x.f4.length c4] := ⟨[.int .i64 x.f0], [.int .i64 x.f1, .string x.f2, .string x.f3, .slice A4 x.f4.length c4], rfl, rfl, ⟨[.int .i64 x.f1], [.string x.f2, .string x.f3, .slice A4 x.f4.length c4], rfl, rfl, ⟨[.string x.f2], [.string x.f3, .slice A4 x.f4.length c4], rfl, rfl, ⟨[.string x.f3], [.slice A4 x.f4.length c4], rfl, rfl, ⟨A4, c4, rfl, l4, g4⟩⟩⟩⟩⟩
theorem k35_mkM (w : World) (base : Nat) (ok : Nat → Prop) (x : S35) {v4 : Value} (g4 : k41.R 41 w base ok v4 x.f4) : k35.M w base ok x [.int .i64 x.f0, .int .i64 x.f1, .string x.f2, .string x.f3, v4] := ⟨[.int .i64 x.f0], [.int .i64 x.f1, .string x.f2, .string x.f3, v4], rfl, rfl, ⟨[.int .i64 x.f1], [.string x.f2, .string x.f3, v4], rfl, rfl, ⟨[.string x.f2], [.string x.f3, v4], rfl, rfl, ⟨[.string x.f3], [v4], rfl, rfl, ⟨v4, rfl, g4⟩⟩⟩⟩⟩
theorem k35_openF {W : World} {ok : Nat → Prop} {x : S35} {cs : List Value} (h : Kd.FK k35 W ok x cs) : ∃ A4 c4, cs = [.int .i64 x.f0, .int .i64 x.f1, .string x.f2, .string x.f3, .slice A4 x.f4.length c4] ∧ x.f4.length ≤ c4 ∧ Kd.F k41 W ok A4 x.f4.length x.f4 := by
  obtain ⟨A4, c4, rfl, l4, _⟩ := k35_open (Kd.FK_now h)
  exact ⟨A4, c4, rfl, l4, (fun W' hW => by obtain ⟨A4_, c4_, he, l4_, g4_⟩ := k35_open (h W' hW); injection (Option.some.inj (show some (Value.slice A4 x.f4.length c4) = some (Value.slice A4_ x.f4.length c4_) from congrArg (fun l => l[4]?) he)) with ha_ _ _; rw [ha_]; exact g4_)⟩
theorem k35_mkF (W : World) (ok : Nat → Prop) (x : S35) {A4 : Option Addr} {c4 : Nat} (l4 : x.f4.length ≤ c4) (g4 : Kd.F k41 W ok A4 x.f4.length x.f4) : Kd.FK k35 W ok x [.int .i64 x.f0, .int .i64 x.f1, .string x.f2, .string x.f3, .slice A4 x.f4.length c4] := fun W2 hW => k35_mk W2 x l4 (g4 W2 hW)
def rd_T35 (xs : List S35) (i : Int) : S35 := xs.getD i.toNat z35
theorem at_T35 {w : World} {A : Option Addr} {n : Nat} {xs : List S35} (h : Kd.C k35 w A n xs) (i : Int) (h0 : 0 ≤ i) (h1 : i < n) : ∃ ad A4 c4, A = some ad ∧ w.cell? (ad.add (i.toNat * 5)) = some (.int .i64 (rd_T35 xs i).f0) ∧ w.cell? ⟨(ad.add (i.toNat * 5)).block, (ad.add (i.toNat * 5)).off + 1, none⟩ = some (.int .i64 (rd_T35 xs i).f1) ∧ w.cell? ⟨(ad.add (i.toNat * 5)).block, (ad.add (i.toNat * 5)).off + 2, none⟩ = some (.string (rd_T35 xs i).f2) ∧ w.cell? ⟨(ad.add (i.toNat * 5)).block, (ad.add (i.toNat * 5)).off + 3, none⟩ = some (.string (rd_T35 xs i).f3) ∧ w.cell? ⟨(ad.add (i.toNat * 5)).block, (ad.add (i.toNat * 5)).off + 4, none⟩ = some (.slice A4 (rd_T35 xs i).f4.length c4) ∧ (rd_T35 xs i).f4.length ≤ c4 ∧ k41.C w A4 (rd_T35 xs i).f4.length (rd_T35 xs i).f4 := by
  obtain ⟨ad, c, e, _, hK, hc0⟩ := Kd.C_get h z35 i h0 h1
  have hc : ∀ j u, c[j]? = some u → w.cell? (ad.add (i.toNat * 5 + j)) = some u := hc0
  obtain ⟨A4, c4, rfl, l4, g4⟩ := k35_open hK
  exact ⟨ad, A4, c4, e, hc 0 _ rfl, by rw [← add_field _ _ 1 (by omega)]; exact hc 1 _ rfl, by rw [← add_field _ _ 2 (by omega)]; exact hc 2 _ rfl, by rw [← add_field _ _ 3 (by omega)]; exact hc 3 _ rfl, by rw [← add_field _ _ 4 (by omega)]; exact hc 4 _ rfl, l4, g4⟩
end Go.Proofs.YtpnhjipaeggcpaaDoor.X
end
section
namespace Go.Proofs.YtpnhjipaeggcpaaDoor.X
open Go.RowKit Go.Proofs.YtpnhjipaeggcpaaDoorW.PrintWords Go.Proofs.YtpnhjipaeggcpaaDoorW.PrintLast Go.Proofs.YtpnhjipaeggcpaaDoorW.PrintMore
theorem row_at {w : World} {A : Option Addr} {n : Nat} {l : List S35} (h : Kd.C k35 w A n l) {k : Nat} {x : S35} (hx : l[k]? = some x) :
    ∃ ad A4 c4, A = some ad ∧ w.cell? (ad.add (k * 5)) = some (.int .i64 x.f0) ∧ w.cell? ⟨(ad.add (k * 5)).block, (ad.add (k * 5)).off + 1, none⟩ = some (.int .i64 x.f1) ∧
      w.cell? ⟨(ad.add (k * 5)).block, (ad.add (k * 5)).off + 2, none⟩ = some (.string x.f2) ∧ w.cell? ⟨(ad.add (k * 5)).block, (ad.add (k * 5)).off + 3, none⟩ = some (.string x.f3) ∧
      w.cell? ⟨(ad.add (k * 5)).block, (ad.add (k * 5)).off + 4, none⟩ = some (.slice A4 x.f4.length c4) ∧ x.f4.length ≤ c4 ∧ Kd.C k41 w A4 x.f4.length x.f4 := by
  have hk : k < l.length := (List.getElem?_eq_some_iff.1 hx).1
  have hn : l.length = n := h.1
  have e : rd_T35 l (k : Int) = x := by simp [rd_T35, hx]
  have := at_T35 h (k : Int) (by omega) (by omega)
  rw [e, Int.toNat_natCast] at this
  exact this
theorem attr_at {w : World} {A : Option Addr} {n : Nat} {l : List S41} (h : Kd.C k41 w A n l) {k : Nat} {x : S41} (hx : l[k]? = some x) :
    ∃ ad, A = some ad ∧ w.cell? (ad.add (k * 2)) = some (.string x.f0) ∧ w.cell? ⟨(ad.add (k * 2)).block, (ad.add (k * 2)).off + 1, none⟩ = some (.string x.f1) := by
  have hk : k < l.length := (List.getElem?_eq_some_iff.1 hx).1
  have hn : l.length = n := h.1
  have e : rd_T41 l (k : Int) = x := by simp [rd_T41, hx]
  have := at_T41 h (k : Int) (by omega) (by omega)
  rw [e, Int.toNat_natCast] at this
  exact this
theorem str_at {w : World} {A : Option Addr} {n : Nat} {l : List ByteArray} (h : Kd.C Kd.string w A n l) {k : Nat} {x : ByteArray} (hx : l[k]? = some x) :
    ∃ ad, A = some ad ∧ w.cell? (ad.add k) = some (.string x) := by
  have hk : k < l.length := (List.getElem?_eq_some_iff.1 hx).1
  have hn : l.length = n := h.1
  obtain ⟨ad, c, e, _, hK, hc0⟩ := Kd.C_get h (⟨#[]⟩ : ByteArray) (k : Int) (by omega) (by omega)
  obtain rfl : c = [.string (l.getD (k : Int).toNat ⟨#[]⟩)] := hK
  refine ⟨ad, e, ?_⟩
  have := hc0 0 _ rfl
  simpa [hx, show Kd.string.sz = 1 from rfl] using this
theorem int_at {w : World} {A : Option Addr} {n : Nat} {l : List Int} (h : Kd.C (Kd.int .i64) w A n l) {k : Nat} {x : Int} (hx : l[k]? = some x) :
    ∃ ad, A = some ad ∧ w.cell? (ad.add k) = some (.int .i64 x) := by
  have hk : k < l.length := (List.getElem?_eq_some_iff.1 hx).1
  have hn : l.length = n := h.1
  obtain ⟨ad, c, e, _, hK, hc0⟩ := Kd.C_get h (0 : Int) (k : Int) (by omega) (by omega)
  obtain rfl : c = [.int .i64 (l.getD (k : Int).toNat 0)] := hK
  refine ⟨ad, e, ?_⟩
  have := hc0 0 _ rfl
  simpa [hx, show (Kd.int .i64).sz = 1 from rfl] using this
theorem cell_alloc {w : World} {a : Addr} {v : Value} (h : w.cell? a = some v) (o : Obj) : (w.alloc o).cell? a = some v := by rw [World.cell?_alloc_lt _ _ _ (World.block_lt_of_cell? w _ h)]; exact h
theorem leO_le {α : Type} {f : Nat → Option α} (h : ∀ k, LeO (f k) (f (k + 1))) {r : α} {k : Nat} (hk : f k = some r) : ∀ {m : Nat}, k ≤ m → f m = some r := fun {m} hm => by
  obtain ⟨d, rfl⟩ := Nat.exists_eq_add_of_le hm
  clear hm
  induction d with
  | zero => exact hk
  | succ d ih => exact h _ _ ih
theorem getD_at {α : Type} {l : List α} {k : Nat} (hk : k < l.length) : ∃ x, l[k]? = some x ∧ l[k] = x := ⟨l[k], List.getElem?_eq_getElem hk, rfl⟩
end Go.Proofs.YtpnhjipaeggcpaaDoor.X
end
section
namespace Go.Proofs.YtpnhjipaeggcpaaDoor.X
open Go.RowKit Go.Proofs.YtpnhjipaeggcpaaDoorW.PrintWords Go.Proofs.YtpnhjipaeggcpaaDoorW.PrintLast Go.Proofs.YtpnhjipaeggcpaaDoorW.PrintMore
attribute [local go_sem] max2_int min2_int max_two min_two max_three min_three max_four min_four
def rows_is.f (l0 : List (S35)) (a1 : Int) : Option (Bool) := if a1 ≥ 0 then (some (decide (a1 < (l0.length : Int)))) else (some false)
set_option maxHeartbeats 8000000 in
set_option maxRecDepth 100000 in
theorem rows_is.calls (A0 : Option Addr) (c0 : Nat) (l0 : List (S35)) (a1 : Int) (r : Bool) (w : World) (hr0 : Kd.C k35 w A0 l0.length l0) (hc0 : l0.length ≤ c0) (h : rows_is.f l0 a1 = some r) :
  Calls Tryd.prog 59 #[.slice A0 l0.length c0, .int .i64 a1] w fun e w' => e = .returned (.bool r) ∧ Drawn0 w w' := by
 have HR0 := Aside0.mk hr0
 have HC0 := Aside0.mk hc0
 clear hr0 hc0
 have H : (if a1 ≥ 0 then (some (decide (a1 < (l0.length : Int)))) else (some false)) = some r := h
 clear h
 by_cases c3 : a1 ≥ 0
 ·rw [if_pos c3] at H
  have c3b0 : decide (0 ≤ a1) = true := decide_eq_true c3
  clear c3
  obtain rfl := Option.some.inj H
  go_enter Tryd.func59, Tryd.ntmps59
  go_wp2
  go_ret
  exact ⟨y4_, y3_⟩
 ·rw [if_neg c3] at H
  have c3b0 : decide (0 ≤ a1) = false := decide_eq_false c3
  clear c3
  obtain rfl := Option.some.inj H
  go_enter Tryd.func59, Tryd.ntmps59
  go_wp2
  go_ret
  exact ⟨y4_, y3_⟩
end Go.Proofs.YtpnhjipaeggcpaaDoor.X
end
section
namespace Go.Proofs.YtpnhjipaeggcpaaDoor.X
open Go.RowKit Go.Proofs.YtpnhjipaeggcpaaDoorW.PrintWords Go.Proofs.YtpnhjipaeggcpaaDoorW.PrintLast Go.Proofs.YtpnhjipaeggcpaaDoorW.PrintMore
attribute [local go_sem] max2_int min2_int max_two min_two max_three min_three max_four min_four
def rows_End.l0 : Nat → List (S35) → Int → Int → Option (Int)
 | 0, _, _, _ => none
 | k + 1, x0, x1, x5 => if x5 < (x0.length : Int) then (if 0 ≤ x5 then (if 0 ≤ x1 then (if x1 < (x0.length : Int) then (if ((rd_T35 x0 x5).f0) > ((rd_T35 x0 x1).f0) then (rows_End.l0 k x0 x1 (wrap64 (x5 + 1))) else (some x5)) else (none)) else (none)) else (none)) else (some x5)
def rows_End.f (k : Nat) (l0 : List (S35)) (a1 : Int) : Option (Int) := (rows_is.f l0 a1).bind fun t460 => (if t460 = true then (rows_End.l0 k l0 a1 (wrap64 (a1 + 1))) else (some 0))
theorem rows_End.mono_l : ∀ k, (∀ y0 y1 y2, LeO (rows_End.l0 k y0 y1 y2) (rows_End.l0 (k + 1) y0 y1 y2))
 | 0 => fun _ _ _ r h => by simp [rows_End.l0] at h
 | k + 1 => by
  have ih0 := rows_End.mono_l k
  ·intro y0 y1 y2
   unfold rows_End.l0
   repeat' first
   | (with_reducible exact ih0 _ _ _)
   | (with_reducible exact LeO.refl _)
   | (with_reducible exact LeO.none _)
   | (with_reducible refine LeO.ite ?_ ?_)
   | (with_reducible refine LeO.bind ?_ (fun _ => ?_))
   | exact ih0 _ _ _
   | exact LeO.none _
   | refine LeO.ite ?_ ?_
   | refine LeO.bind ?_ (fun _ => ?_)
set_option maxHeartbeats 8000000 in
set_option maxRecDepth 100000 in
theorem rows_End.calls (k : Nat) (A0 : Option Addr) (c0 : Nat) (l0 : List (S35)) (a1 : Int) (r : Int) (w : World) (hr0 : Kd.C k35 w A0 l0.length l0) (hc0 : l0.length ≤ c0) (h : rows_End.f k l0 a1 = some r) :
  Calls Tryd.prog 80 #[.slice A0 l0.length c0, .int .i64 a1] w fun e w' => e = .returned (.int .i64 r) ∧ Drawn0 w w' := by
 have HR0 := Aside0.mk hr0
 have HC0 := Aside0.mk hc0
 clear hr0 hc0
 have H : ((rows_is.f l0 a1).bind fun t460 => (if t460 = true then (rows_End.l0 k l0 a1 (wrap64 (a1 + 1))) else (some 0))) = some r := h
 clear h
 replace H := Option.bind_eq_some_iff.mp H
 obtain ⟨t460, A30, H⟩ := H
 have A3 := Aside0.mk A30
 clear A30
 by_cases c4 : t460 = true
 ·subst c4
  rw [if_pos rfl] at H
  have H' := Aside0.mk H
  clear H
  go_enter Tryd.func80, Tryd.ntmps80
  go_wp2_with (first | (go_at_call 59; (with_reducible refine (rows_is.calls _ _ l0 a1 true _ ?side1 ?side2 A3.out).mono ?_); (case side1 => repeat (first | exact HR0.out | (with_reducible refine Kd.C_alloc ?_ _) | (with_reducible refine Kd.C_drewN ?_ _) | (with_reducible refine Kd.C_drew ?_))); (case side2 => exact HC0.out); rintro e w' ⟨rfl, ⟨nd, rfl⟩⟩; (try first | exact ⟨rfl, _, World.drewN_drewN _ _ _⟩ | exact ⟨rfl, _, Eq.trans (World.drewN_drewN _ _ _) (congrArg (World.drewN _) (Nat.add_assoc _ _ _))⟩)))
  repeat (go_quiet (first | (go_at_call 59; (with_reducible refine (rows_is.calls _ _ l0 a1 true _ ?side1 ?side2 A3.out).mono ?_); (case side1 => repeat (first | exact HR0.out | (with_reducible refine Kd.C_alloc ?_ _) | (with_reducible refine Kd.C_drewN ?_ _) | (with_reducible refine Kd.C_drew ?_))); (case side2 => exact HC0.out); rintro e w' ⟨rfl, ⟨nd, rfl⟩⟩; (try first | exact ⟨rfl, _, World.drewN_drewN _ _ _⟩ | exact ⟨rfl, _, Eq.trans (World.drewN_drewN _ _ _) (congrArg (World.drewN _) (Nat.add_assoc _ _ _))⟩))); try go_wp2_with (first | (go_at_call 59; (with_reducible refine (rows_is.calls _ _ l0 a1 true _ ?side1 ?side2 A3.out).mono ?_); (case side1 => repeat (first | exact HR0.out | (with_reducible refine Kd.C_alloc ?_ _) | (with_reducible refine Kd.C_drewN ?_ _) | (with_reducible refine Kd.C_drew ?_))); (case side2 => exact HC0.out); rintro e w' ⟨rfl, ⟨nd, rfl⟩⟩; (try first | exact ⟨rfl, _, World.drewN_drewN _ _ _⟩ | exact ⟨rfl, _, Eq.trans (World.drewN_drewN _ _ _) (congrArg (World.drewN _) (Nat.add_assoc _ _ _))⟩))))
  go_loopg [5] k (fun kq v5 w' => ∃ (x5_1 : Int), v5 = .int .i64 x5_1 ∧ Aside0 (rows_End.l0 kq l0 a1 x5_1 = some r) ∧ Aside0 (kq ≤ k) ∧ Drawn0 w w')
  case atStart => exact ⟨(wrap64 (a1 + 1)), y4_, H', ⟨Nat.le_refl _⟩, y3_⟩
  case round =>
   clear H'
   try clear p2
   try clear c4
   obtain ⟨x5_1, rfl, HA, HK1, ⟨m1, rfl⟩⟩ := hrel
   cases gk with
   | zero => exact absurd HA.out (by simp [rows_End.l0])
   | succ k1 =>
    have H := HA.out
    clear HA
    simp only [rows_End.l0] at H
    by_cases c5 : x5_1 < (l0.length : Int)
    ·rw [if_pos c5] at H
     have c5b0 : decide (x5_1 < (l0.length : Int)) = true := decide_eq_true c5
     clear c5
     by_cases c6 : 0 ≤ x5_1
     rotate_left
     ·rw [if_neg c6] at H
      exact absurd H (by simp)
     rw [if_pos c6] at H
     have c6b0 : decide (0 ≤ x5_1) = true := decide_eq_true c6
     clear c6
     by_cases c7 : 0 ≤ a1
     rotate_left
     ·rw [if_neg c7] at H
      exact absurd H (by simp)
     rw [if_pos c7] at H
     have c7b0 : decide (0 ≤ a1) = true := decide_eq_true c7
     clear c7
     by_cases c8 : a1 < (l0.length : Int)
     rotate_left
     ·rw [if_neg c8] at H
      exact absurd H (by simp)
     rw [if_pos c8] at H
     have c8b0 : decide (a1 < (l0.length : Int)) = true := decide_eq_true c8
     clear c8
     by_cases c9 : ((rd_T35 l0 x5_1).f0) > ((rd_T35 l0 a1).f0)
     ·rw [if_pos c9] at H
      have c9b0 : decide (((rd_T35 l0 a1).f0) < ((rd_T35 l0 x5_1).f0)) = true := decide_eq_true c9
      clear c9
      have H' := Aside0.mk H
      clear H
      have p461 : 0 ≤ (x5_1 : Int) := of_decide_eq_true y2_
      have q461 : x5_1 < (l0.length : Int) := of_decide_eq_true y2_
      obtain ⟨ad461, A461_4, c461_4, e461, hx461_0, hx461_1, hx461_2, hx461_3, hx461_4, hl461_4, hi461_4⟩ := at_T35 HR0.out x5_1 p461 q461
      cases e461
      have HR461_4 := Aside0.mk hi461_4
      have HC461_4 := Aside0.mk hl461_4
      clear hi461_4 hl461_4
      replace p461 := eq_true p461
      replace q461 := eq_true q461
      have p462 : 0 ≤ (a1 : Int) := of_decide_eq_true y2_
      have q462 : a1 < (l0.length : Int) := of_decide_eq_true y2_
      obtain ⟨ad462, A462_4, c462_4, e462, hx462_0, hx462_1, hx462_2, hx462_3, hx462_4, hl462_4, hi462_4⟩ := at_T35 HR0.out a1 p462 q462
      obtain rfl : ad461 = ad462 := (by injection e462)
      try (have e_ := Option.some.inj (hx461_4.symm.trans hx462_4); injection e_ with ea_ eb_ ec_; rw [ea_, ec_] at hx461_4; clear ea_ eb_ ec_)
      have HR462_4 := Aside0.mk hi462_4
      have HC462_4 := Aside0.mk hl462_4
      clear hi462_4 hl462_4
      replace p462 := eq_true p462
      replace q462 := eq_true q462
      go_wp2
      repeat (go_quiet (fail); try go_wp2)
      go_roundg k1
      case measure => have := HK1.out; omega
      case rel => exact ⟨(wrap64 (x5_1 + 1)), y4_, H', ⟨by have := HK1.out; omega⟩, y3_⟩
     ·rw [if_neg c9] at H
      have c9b0 : decide (((rd_T35 l0 a1).f0) < ((rd_T35 l0 x5_1).f0)) = false := decide_eq_false c9
      clear c9
      obtain rfl := Option.some.inj H
      have p461 : 0 ≤ (x5_1 : Int) := of_decide_eq_true y2_
      have q461 : x5_1 < (l0.length : Int) := of_decide_eq_true y2_
      obtain ⟨ad461, A461_4, c461_4, e461, hx461_0, hx461_1, hx461_2, hx461_3, hx461_4, hl461_4, hi461_4⟩ := at_T35 HR0.out x5_1 p461 q461
      cases e461
      have HR461_4 := Aside0.mk hi461_4
      have HC461_4 := Aside0.mk hl461_4
      clear hi461_4 hl461_4
      replace p461 := eq_true p461
      replace q461 := eq_true q461
      have p462 : 0 ≤ (a1 : Int) := of_decide_eq_true y2_
      have q462 : a1 < (l0.length : Int) := of_decide_eq_true y2_
      obtain ⟨ad462, A462_4, c462_4, e462, hx462_0, hx462_1, hx462_2, hx462_3, hx462_4, hl462_4, hi462_4⟩ := at_T35 HR0.out a1 p462 q462
      obtain rfl : ad461 = ad462 := (by injection e462)
      try (have e_ := Option.some.inj (hx461_4.symm.trans hx462_4); injection e_ with ea_ eb_ ec_; rw [ea_, ec_] at hx461_4; clear ea_ eb_ ec_)
      have HR462_4 := Aside0.mk hi462_4
      have HC462_4 := Aside0.mk hl462_4
      clear hi462_4 hl462_4
      replace p462 := eq_true p462
      replace q462 := eq_true q462
      go_wp2
      repeat (go_quiet (fail); try go_wp2)
      go_ret
      exact ⟨y4_, y3_⟩
    ·rw [if_neg c5] at H
     have c5b0 : decide (x5_1 < (l0.length : Int)) = false := decide_eq_false c5
     clear c5
     obtain rfl := Option.some.inj H
     go_wp2
     repeat (go_quiet (fail); try go_wp2)
     go_ret
     exact ⟨y4_, y3_⟩
 ·replace c4 := Bool.eq_false_iff.mpr c4
  subst c4
  rw [if_neg (show ¬ (false = true) by decide)] at H
  obtain rfl := Option.some.inj H
  go_enter Tryd.func80, Tryd.ntmps80
  go_wp2_with (first | (go_at_call 59; (with_reducible refine (rows_is.calls _ _ l0 a1 false _ ?side1 ?side2 A3.out).mono ?_); (case side1 => repeat (first | exact HR0.out | (with_reducible refine Kd.C_alloc ?_ _) | (with_reducible refine Kd.C_drewN ?_ _) | (with_reducible refine Kd.C_drew ?_))); (case side2 => exact HC0.out); rintro e w' ⟨rfl, ⟨nd, rfl⟩⟩; (try first | exact ⟨rfl, _, World.drewN_drewN _ _ _⟩ | exact ⟨rfl, _, Eq.trans (World.drewN_drewN _ _ _) (congrArg (World.drewN _) (Nat.add_assoc _ _ _))⟩)))
  repeat (go_quiet (first | (go_at_call 59; (with_reducible refine (rows_is.calls _ _ l0 a1 false _ ?side1 ?side2 A3.out).mono ?_); (case side1 => repeat (first | exact HR0.out | (with_reducible refine Kd.C_alloc ?_ _) | (with_reducible refine Kd.C_drewN ?_ _) | (with_reducible refine Kd.C_drew ?_))); (case side2 => exact HC0.out); rintro e w' ⟨rfl, ⟨nd, rfl⟩⟩; (try first | exact ⟨rfl, _, World.drewN_drewN _ _ _⟩ | exact ⟨rfl, _, Eq.trans (World.drewN_drewN _ _ _) (congrArg (World.drewN _) (Nat.add_assoc _ _ _))⟩))); try go_wp2_with (first | (go_at_call 59; (with_reducible refine (rows_is.calls _ _ l0 a1 false _ ?side1 ?side2 A3.out).mono ?_); (case side1 => repeat (first | exact HR0.out | (with_reducible refine Kd.C_alloc ?_ _) | (with_reducible refine Kd.C_drewN ?_ _) | (with_reducible refine Kd.C_drew ?_))); (case side2 => exact HC0.out); rintro e w' ⟨rfl, ⟨nd, rfl⟩⟩; (try first | exact ⟨rfl, _, World.drewN_drewN _ _ _⟩ | exact ⟨rfl, _, Eq.trans (World.drewN_drewN _ _ _) (congrArg (World.drewN _) (Nat.add_assoc _ _ _))⟩))))
  go_ret
  exact ⟨y4_, y3_⟩
end Go.Proofs.YtpnhjipaeggcpaaDoor.X
end
section
namespace Go.Proofs.YtpnhjipaeggcpaaDoor.X
open Go.RowKit Go.Shelf Go.Proofs.YtpnhjipaeggcpaaDoorW.PrintWords Go.Proofs.YtpnhjipaeggcpaaDoorW.PrintLast Go.Proofs.YtpnhjipaeggcpaaDoorW.PrintMore
theorem wide_fn (f : FuncId) : Fence.wide.fn f = True := rfl
attribute [local go_sem] Oper.semAt_some wide_fn
def runDeep (d : Int) : List S35 → Nat
  | [] => 0
  | x :: r => if x.f0 > d then runDeep d r + 1 else 0
def endOf (l : List S35) (i : Nat) : Nat := i + 1 + runDeep ((rd_T35 l (i : Int)).f0) (l.drop (i + 1))
def rEnd (l : List S35) (i : Int) : Int := if 0 ≤ i ∧ i < (l.length : Int) then (endOf l i.toNat : Int) else 0
theorem runDeep_le (d : Int) : ∀ l, runDeep d l ≤ l.length
  | [] => Nat.le_refl _
  | x :: r => by
    have := runDeep_le d r
    unfold runDeep
    split <;> simp <;> omega
theorem endOf_le (l : List S35) (i : Nat) (hi : i < l.length) : i < endOf l i ∧ endOf l i ≤ l.length := by
  have := runDeep_le ((rd_T35 l (i : Int)).f0) (l.drop (i + 1))
  rw [List.length_drop] at this
  unfold endOf
  omega
theorem rEnd_loop (l : List S35) (i : Nat) (hi : i < l.length) (hmax : l.length ≤ 9223372036854775807) : ∀ (d k : Nat), k + d = l.length →
    rows_End.l0 (d + 1) l (i : Int) (k : Int) = some ((k + runDeep ((rd_T35 l (i : Int)).f0) (l.drop k) : Nat) : Int)
  | 0, k, hk => by
    simp only [rows_End.l0]
    rw [if_neg (by omega), List.drop_eq_nil_of_le (by omega)]
    rfl
  | d + 1, k, hk => by
    have hlt : k < l.length := by omega
    have ih := rEnd_loop l i hi hmax d (k + 1) (by omega)
    rw [List.drop_eq_getElem_cons hlt]
    have hrd : rd_T35 l (k : Int) = l[k] := by simp [rd_T35, hlt]
    rw [rows_End.l0, if_pos (by omega), if_pos (by omega), if_pos (by omega), if_pos (by omega), hrd, runDeep]
    split
    · rw [show wrap64 ((k : Int) + 1) = ((k + 1 : Nat) : Int) by unfold wrap64; omega, ih]
      congr 2
      omega
    · simp
theorem rEnd_is (l : List S35) (i : Int) (hmax : l.length ≤ 9223372036854775807) : rows_End.f (l.length + 1) l i = some (rEnd l i) := by
  unfold rows_End.f rows_is.f rEnd
  by_cases h : 0 ≤ i ∧ i < (l.length : Int)
  · obtain ⟨k, rfl⟩ := Int.eq_ofNat_of_zero_le h.1
    have hk : k < l.length := by omega
    rw [if_pos (by omega), if_pos h]
    simp only [Option.bind_some]
    rw [if_pos (by simpa using h.2), show wrap64 ((k : Int) + 1) = ((k + 1 : Nat) : Int) by unfold wrap64; omega]
    have := rEnd_loop l k hk hmax (l.length - (k + 1)) (k + 1) (by omega)
    rw [leO_le (f := fun q => rows_End.l0 q l (k : Int) ((k + 1 : Nat) : Int)) (fun q => rows_End.mono_l q _ _ _) this (by omega)]
    rfl
  · rw [if_neg h]
    by_cases h0 : i ≥ 0
    · rw [if_pos h0]
      simp only [Option.bind_some]
      rw [if_neg (by simp; omega)]
    · rw [if_neg h0]; rfl
def kidsGo (l : List S35) (e1 : Nat) : Nat → Nat → List Int
  | 0, _ => []
  | g + 1, k => if k < e1 then (k : Int) :: kidsGo l e1 g (endOf l k) else []
def kidsOf (l : List S35) (i : Int) : List Int := if i = -1 then kidsGo l l.length l.length 0 else kidsGo l (rEnd l i).toNat l.length (i.toNat + 1)
def rows_Kids.f (l0 : List S35) (a1 : Int) : Option (List Int) := if a1 = -1 ∨ (0 ≤ a1 ∧ a1 < (l0.length : Int)) then (if l0.length < 17592186044416 then some (kidsOf l0 a1) else none) else some []
theorem kidsGo_length (l : List S35) (e1 : Nat) (hto : e1 ≤ l.length) : ∀ g k, (kidsGo l e1 g k).length ≤ e1 - k
  | 0, k => Nat.zero_le _
  | g + 1, k => by
    unfold kidsGo
    split
    · have := kidsGo_length l e1 hto g (endOf l k)
      have := endOf_le l k (by omega)
      simp; omega
    · simp
def KidsKp (b b1 b2 : Nat) (A B : World) : Prop := Below b A B ∧ B.heap[b1]? = A.heap[b1]? ∧ B.heap[b2]? = A.heap[b2]?
theorem kidsKp_t {b b1 b2 : Nat} {A B C : World} (h : KidsKp b b1 b2 A B) (k : KidsKp b b1 b2 B C) : KidsKp b b1 b2 A C := ⟨h.1.trans k.1, k.2.1.trans h.2.1, k.2.2.trans h.2.2⟩
theorem kidsKp_refl (b b1 b2 : Nat) (A : World) : KidsKp b b1 b2 A A := ⟨Below.refl _ _, rfl, rfl⟩
theorem kidsKp_drewN {b b1 b2 : Nat} {A B : World} (h : KidsKp b b1 b2 A B) (n : Nat) : KidsKp b b1 b2 A (B.drewN n) := ⟨pw_below_drewN h.1 n, h.2.1, h.2.2⟩
theorem kids_block {W W' : World} {b : Nat} {t : TypeId} {v : Value} (h : W.heap[b]? = some (.cells #[v] t (0, 0))) (e : W'.heap[b]? = W.heap[b]?) : W'.cell? ⟨b, 0, none⟩ = some v := by
  have := e.trans h
  simp [World.cell?, this]
set_option maxRecDepth 100000 in
set_option maxHeartbeats 4000000 in
theorem kids1_in (l nb b1 b2 cap : Nat) (A : Option Addr) (rs : List S35) (i : Int) (hi : i = -1 ∨ (0 ≤ i ∧ i < (rs.length : Int))) (w0 : World) (hC : Kd.C k35 w0 A rs.length rs) (hcap : rs.length ≤ cap) (hnb : w0.heap.size ≤ nb) (J Jx : List Int → World → Prop)
    (hY : ∀ pre x W, J pre W → pre.length < (kidsOf rs i).length → YieldAt Fence.wide 1 Tryd.prog l #[.int .i64 x] W fun e W' =>
      (e = .returned (.bool true) ∧ J (pre ++ [x]) W' ∧ KidsKp nb b1 b2 W W') ∨ (e = .returned (.bool false) ∧ Jx (pre ++ [x]) W'))
    (W : World) (hb : Below w0.heap.size w0 W) (hB1 : W.heap[b1]? = some (.cells #[.slice A rs.length cap] 22 (0, 0))) (hB2 : W.heap[b2]? = some (.cells #[.int .i64 i] 3 (0, 0))) (hJ : ∀ pre n W, J pre W → J pre (W.drewN n)) (h0 : J [] W) :
    CallsIn Fence.wide 2 Tryd.prog 79 #[.func (.yield l) #[] #[], .pointer (some ⟨b1, 0, none⟩), .pointer (some ⟨b2, 0, none⟩)] W fun e W' => (∃ v, e = .returned v) ∧
      ((∃ ys, ys = kidsOf rs i ∧ J ys W') ∨ (∃ pre, True ∧ Jx pre W')) := by
  have hmax : rs.length ≤ 9223372036854775807 := hC.2.1
  have HC := Aside0.mk hC
  have HW := Aside0.mk hb
  have H1 := Aside0.mk hB1
  have H2 := Aside0.mk hB2
  have HE : ∀ (k : Nat) (V : World), Below w0.heap.size w0 V → Calls Tryd.prog 80 #[.slice A rs.length cap, .int .i64 k] V fun e w' => e = .returned (.int .i64 (rEnd rs k)) ∧ ∃ m, w' = V.drewN m := fun k V hV =>
    (rows_End.calls _ A cap rs k _ V (Kd.C_below HC.out hV) hcap (rEnd_is rs k hmax)).mono fun _ _ h => ⟨h.1, h.2.out⟩
  have HEA := Aside0.mk HE
  clear hC hb HE
  have c1_ := kids_block hB1 rfl
  have c2_ := kids_block hB2 rfl
  clear hB1 hB2
  refine callsIn_of_wp Tryd.func79 rfl trivial ?_ rfl
  simp only [Tryd.ntmps79, List.size_toArray, List.length_cons, List.length_nil, Nat.reduceAdd, Nat.reduceSub, Array.replicate_succ, Array.replicate_zero, List.push_toArray, List.append_toArray, List.nil_append, List.cons_append]
  obtain ⟨i0, hi0⟩ : ∃ i0, i0 = i := ⟨_, rfl⟩
  rw [← hi0] at hY
  rw [← hi0]
  by_cases h1 : i = -1
  · subst h1
    have HI := Aside0.mk (show kidsGo rs rs.length rs.length 0 = kidsOf rs i0 by rw [hi0]; rfl)
    clear hi0
    gi_wp2
    gi_quiet (fail)
    gi_wp2
    gi_loopw [6] (fun x wr => ∃ (k g : Nat) (pre : List Int), x = .int .i64 k ∧ rs.length ≤ k + g ∧ Aside0 (pre ++ kidsGo rs rs.length g k = kidsOf rs i0) ∧ Aside0 (J pre wr) ∧ Aside0 (KidsKp nb b1 b2 W wr))
      (fun x _ => rs.length - (intOf x).toNat)
    case atStart => exact ⟨0, rs.length, [], by simp, by omega, ⟨by rw [List.nil_append, HI.out]⟩, ⟨by first | exact hJ _ _ _ h0 | exact hJ _ _ _ (hJ _ _ _ h0)⟩, ⟨by first | exact kidsKp_drewN (kidsKp_refl _ _ _ _) _ | exact kidsKp_drewN (kidsKp_drewN (kidsKp_refl _ _ _ _) _) _⟩⟩
    case round =>
      obtain ⟨k, g, pre, rfl, hg, HP, HJ, HK⟩ := hrel
      have c1 := kids_block H1.out HK.out.2.1
      by_cases hlt : k < rs.length
      · have hlz : (k : Int) < ((rs.length : Nat) : Int) := by omega
        obtain ⟨g', rfl⟩ : ∃ g', g = g' + 1 := ⟨g - 1, by omega⟩
        have hp := HP.out
        rw [kidsGo, if_pos hlt] at hp
        have HP2 := Aside0.mk hp
        have hpl : pre.length < (kidsOf rs i0).length := by rw [← hp]; simp
        obtain ⟨fn, tmps, assign, body, hy, hR⟩ := hY pre (k : Int) wr HJ.out hpl
        (try dsimp only at hy)
        have hend := fun V hV => HEA.out k V hV
        have hen : rEnd rs (k : Int) = ((endOf rs k : Nat) : Int) := by unfold rEnd; exact if_pos (by omega)
        rw [hen] at hend
        have hel := endOf_le rs k (by omega)
        clear hp hen hpl
        gi_wp2
        refine hR.mono ?_
        rintro e W3 (⟨rfl, hJ3, hk3⟩ | ⟨rfl, hJx3⟩)
        · have HJ3 := Aside0.mk hJ3
          have HK3 := Aside0.mk (kidsKp_t HK.out hk3)
          clear hJ3 hk3 c1
          have c3 := kids_block H1.out HK3.out.2.1
          have hc3 := hend W3 (HW.out.trans (HK3.out.1.mono hnb))
          clear hend
          gi_wp2_with (gi_at_call 80; refine (callsIn_wide.2 hc3).mono ?_; clear hc3; rintro e w' ⟨rfl, m, rfl⟩)
          go_roundw
          case rel => exact ⟨endOf rs k, g', pre ++ [(k : Int)], rfl, by omega, ⟨by rw [← HP2.out]; simp⟩, ⟨hJ _ _ _ HJ3.out⟩, ⟨kidsKp_drewN HK3.out _⟩⟩
          case measure => simp [intOf]; omega
        · have HJ3 := Aside0.mk hJx3
          clear hJx3 hend
          gi_wp2
          refine bodyPost_ret (results_none rfl _ _ _) rfl ?_
          exact ⟨⟨_, rfl⟩, .inr ⟨_, trivial, HJ3.out⟩⟩
      · have hlz : ¬ (k : Int) < ((rs.length : Nat) : Int) := by omega
        have hp := HP.out
        have hnil : kidsGo rs rs.length g k = [] := by cases g <;> simp [kidsGo, hlt]
        rw [hnil, List.append_nil] at hp
        have HP2 := Aside0.mk hp
        clear hp hnil
        gi_wp2
        go_end0
        exact ⟨⟨_, rfl⟩, .inl (HP2.out ▸ HJ.out)⟩
  · obtain ⟨m, rfl⟩ : ∃ m : Nat, i = m := ⟨i.toNat, by omega⟩
    have hm : m < rs.length := by omega
    have hen : rEnd rs (m : Int) = ((endOf rs m : Nat) : Int) := by unfold rEnd; exact if_pos (by omega)
    have hle := (endOf_le rs m hm).2
    have HI := Aside0.mk (show kidsGo rs (endOf rs m) rs.length (m + 1) = kidsOf rs i0 by rw [hi0, kidsOf, if_neg h1, hen]; rfl)
    have hneg : ((m : Int) != -1) = true := bne_iff_ne.mpr (by omega)
    have hE0 := fun V hV => HEA.out m V hV
    rw [hen] at hE0
    clear hi0 hen
    gi_wp2
    gi_quiet (fail)
    gi_wp2
    gi_quiet (first | (gi_at_call 80 ; refine (callsIn_wide.2 (hE0 _ (pw_below_drewN HW.out _))).mono fun _ _ h => ⟨h.1, ?_⟩; obtain ⟨q, hq⟩ := h.2; exact ⟨_, by rw [hq, World.drewN_drewN, Nat.add_assoc]⟩))
    gi_wp2
    clear hE0 hneg
    gi_loopw [6] (fun x wr => ∃ (k g : Nat) (pre : List Int), x = .int .i64 k ∧ endOf rs m ≤ k + g ∧ Aside0 (pre ++ kidsGo rs (endOf rs m) g k = kidsOf rs i0) ∧ Aside0 (J pre wr) ∧ Aside0 (KidsKp nb b1 b2 W wr))
      (fun x _ => endOf rs m - (intOf x).toNat)
    case atStart => exact ⟨m + 1, rs.length, [], by simp, by omega, ⟨by rw [List.nil_append, HI.out]⟩, ⟨by first | exact hJ _ _ _ h0 | exact hJ _ _ _ (hJ _ _ _ h0)⟩, ⟨by first | exact kidsKp_drewN (kidsKp_refl _ _ _ _) _ | exact kidsKp_drewN (kidsKp_drewN (kidsKp_refl _ _ _ _) _) _⟩⟩
    case round =>
      obtain ⟨k, g, pre, rfl, hg, HP, HJ, HK⟩ := hrel
      have c1 := kids_block H1.out HK.out.2.1
      by_cases hlt : k < endOf rs m
      · have hlz : (k : Int) < ((endOf rs m : Nat) : Int) := by omega
        obtain ⟨g', rfl⟩ : ∃ g', g = g' + 1 := ⟨g - 1, by omega⟩
        have hp := HP.out
        rw [kidsGo, if_pos hlt] at hp
        have HP2 := Aside0.mk hp
        have hpl : pre.length < (kidsOf rs i0).length := by rw [← hp]; simp
        obtain ⟨fn, tmps, assign, body, hy, hR⟩ := hY pre (k : Int) wr HJ.out hpl
        (try dsimp only at hy)
        have hend := fun V hV => HEA.out k V hV
        have hen : rEnd rs (k : Int) = ((endOf rs k : Nat) : Int) := by unfold rEnd; exact if_pos (by omega)
        rw [hen] at hend
        have hel := endOf_le rs k (by omega)
        clear hp hen hpl
        gi_wp2
        refine hR.mono ?_
        rintro e W3 (⟨rfl, hJ3, hk3⟩ | ⟨rfl, hJx3⟩)
        · have HJ3 := Aside0.mk hJ3
          have HK3 := Aside0.mk (kidsKp_t HK.out hk3)
          clear hJ3 hk3 c1
          have c3 := kids_block H1.out HK3.out.2.1
          have hc3 := hend W3 (HW.out.trans (HK3.out.1.mono hnb))
          clear hend
          gi_wp2_with (gi_at_call 80; refine (callsIn_wide.2 hc3).mono ?_; clear hc3; rintro e w' ⟨rfl, m, rfl⟩)
          go_roundw
          case rel => exact ⟨endOf rs k, g', pre ++ [(k : Int)], rfl, by omega, ⟨by rw [← HP2.out]; simp⟩, ⟨hJ _ _ _ HJ3.out⟩, ⟨kidsKp_drewN HK3.out _⟩⟩
          case measure => simp [intOf]; omega
        · have HJ3 := Aside0.mk hJx3
          clear hJx3 hend
          gi_wp2
          refine bodyPost_ret (results_none rfl _ _ _) rfl ?_
          exact ⟨⟨_, rfl⟩, .inr ⟨_, trivial, HJ3.out⟩⟩
      · have hlz : ¬ (k : Int) < ((endOf rs m : Nat) : Int) := by omega
        have hp := HP.out
        have hnil : kidsGo rs (endOf rs m) g k = [] := by cases g <;> simp [kidsGo, hlt]
        rw [hnil, List.append_nil] at hp
        have HP2 := Aside0.mk hp
        clear hp hnil
        gi_wp2
        go_end0
        exact ⟨⟨_, rfl⟩, .inl (HP2.out ▸ HJ.out)⟩
set_option maxHeartbeats 1000000 in
theorem kids_in (a : Option Addr) (len cap : Nat) (i : Int) (w : World) :
    CallsIn Fence.wide 2 Tryd.prog 60 #[.slice a len cap, .int .i64 i] w fun e w' => e = .returned (.func (.func 79) #[] #[.pointer (some ⟨w.heap.size, 0, none⟩), .pointer (some ⟨w.heap.size + 1, 0, none⟩)]) ∧ w' = (w.alloc (.cells #[.slice a len cap] 22)).alloc (.cells #[.int .i64 i] 3) := by
  refine callsIn_of_wp Tryd.func60 rfl trivial ?_ rfl
  simp only [Tryd.ntmps60, List.size_toArray, List.length_cons, List.length_nil, Nat.reduceAdd, Nat.reduceSub, Array.replicate_succ, Array.replicate_zero, List.push_toArray, List.append_toArray, List.nil_append, List.cons_append]
  gi_wp2
  go_ret
  exact ⟨rfl, rfl⟩
def KidsI (b : Nat) (w W0 : World) (pre : List Int) (W : World) : Prop :=
  (∃ v, W.heap[b]? = some (.cells #[v] 29 (0, 0)) ∧ W.ownsRow (b + 3) 3 1 v pre.length (pre.map (.int .i64))) ∧ KidsKp b (b + 1) (b + 2) W0 W
theorem kidsI_own {b : Nat} {w W0 : World} (hs : W0.heap.size = b + 3) : OwnFrom (b + 3) (KidsI b w W0) := fun s A B row h hg hr => by
  obtain ⟨⟨v, h1, h2⟩, h3⟩ := h
  have hne : ∀ k o, A.heap[k]? = some o → o.isCells = true → some k ≠ row := fun k o ho hc e => by
    obtain ⟨_, o', ho', hc'⟩ := hr k e.symm
    rw [ho] at ho'; cases ho'; rw [hc] at hc'; cases hc'
  have hblk : ∀ k, k < b + 3 → k < A.heap.size → B.heap[k]? = A.heap[k]? := fun k hk hk' => hg.block k hk' (fun e => by have := (hr k e.symm).1; omega)
  have hA := h3.1.size
  refine ⟨⟨v, (hblk b (by omega) (by omega)).trans h1, h2.kept hg ?_⟩, h3.1.grown hg (by omega) (fun k e => by have := (hr k e).1; omega), (hblk _ (by omega) (by omega)).trans h3.2.1, (hblk _ (by omega) (by omega)).trans h3.2.2⟩
  rcases h2.2 with ⟨rfl, _⟩ | ⟨g, cp, cur, rfl, _, hgc, _⟩
  · exact .inl rfl
  · exact .inr (hne g _ hgc rfl)
theorem kids_lower {w : World} {b size n : Nat} {e : TypeId} {v : Value} {xs : List Value} (h : w.ownsRow (b + 3) e size v n xs) : w.ownsRow b e size v n xs :=
  ⟨h.1, h.2.elim .inl fun ⟨g, cap, cur, h1, h2, h3⟩ => .inr ⟨g, cap, cur, h1, by omega, h3⟩⟩
theorem kids_int : (Tryd.prog.info? 3).map (fun i => (i.zero, i.size, i.bytes)) = some (some (.int .i64 0), 1, 8) := by kernel_rfl
theorem kids_more {b : Nat} {w W0 W w2 : World} {pre : List Int} {x : Int} {v v' : Value} {o : Obj} (hs : W0.heap.size = b + 3) (h1 : W.heap[b]? = some (.cells #[v] 29 (0, 0))) (h2 : W.ownsRow (b + 3) 3 1 v pre.length (pre.map (.int .i64))) (h3 : KidsKp b (b + 1) (b + 2) W0 W)
    (h4 : w2.ownsRow (b + 3) 3 1 v' (pre.length + 1) (pre.map (.int .i64) ++ [.int .i64 x])) (hg : (W.alloc o).grownBy w2 v.ownBlock) :
    KeepsOthers W (w2.setCell ⟨b, 0, none⟩ v') ∧ KidsKp b (b + 1) (b + 2) W (w2.setCell ⟨b, 0, none⟩ v') ∧ KidsI b w W0 (pre ++ [x]) (w2.setCell ⟨b, 0, none⟩ v') ∧ Boxed w2 b 29 v := by
  have hA := h3.1.size
  have hvb : ∀ k, v.ownBlock = some k → b + 3 ≤ k ∧ ∃ cur, W.heap[k]? = some (.cells cur 3 (0, 0)) := fun k hk => by
    rcases h2.2 with ⟨rfl, _⟩ | ⟨g, cp, cur, rfl, hb, hgc, _⟩
    · cases hk
    · cases hk; exact ⟨hb, cur, hgc⟩
  have hblk : ∀ k, k < b + 3 → w2.heap[k]? = W.heap[k]? := fun k hk => (hg.block k (by simp; omega) (fun e => by have := (hvb k e.symm).1; omega)).trans (Below.heap_alloc W o k (by omega))
  have hset : ∀ k, k ≠ b → (w2.setCell ⟨b, 0, none⟩ v').heap[k]? = w2.heap[k]? := fun k hk => Below.heap_setCell w2 ⟨b, 0, none⟩ v' k hk
  have hkp : KidsKp b (b + 1) (b + 2) W (w2.setCell ⟨b, 0, none⟩ v') :=
    ⟨(((Below.refl b W).alloc (by omega) o).grown hg (by simp; omega) (fun k e => by have := (hvb k e).1; omega)).setCell (p := ⟨b, 0, none⟩) (Nat.le_refl _) _, (hset _ (by omega)).trans (hblk _ (by omega)), (hset _ (by omega)).trans (hblk _ (by omega))⟩
  refine ⟨((KeepsOthers.alloc W o).trans (KeepsOthers.of_grownBy hg (fun j o' hj ho => ?_))).trans (KeepsOthers.setCell _ _ _), hkp, ⟨⟨v', ?_, ?_⟩, kidsKp_t h3 hkp⟩, (hblk b (by omega)).trans h1⟩
  · obtain ⟨_, cur, hc⟩ := hvb j hj
    rw [Below.heap_alloc W o j (Array.getElem?_eq_some_iff.1 hc).1, hc] at ho
    cases ho; rfl
  · exact Boxed.set v' (show Boxed w2 b 29 v from (hblk b (by omega)).trans h1)
  · rw [List.length_append, List.map_append]
    refine ⟨h4.1, ?_⟩
    rcases h4.2 with h | ⟨g, cp, cur, e, hb, hgc, hr⟩
    · exact .inl h
    · exact .inr ⟨g, cp, cur, e, hb, (hset g (by omega)).trans hgc, hr⟩
theorem kidsOf_length (rs : List S35) (i : Int) (hi : i = -1 ∨ (0 ≤ i ∧ i < (rs.length : Int))) : (kidsOf rs i).length ≤ rs.length := by
  unfold kidsOf
  split
  · exact Nat.le_trans (kidsGo_length rs rs.length (Nat.le_refl _) _ _) (by omega)
  · obtain ⟨m, rfl⟩ : ∃ m : Nat, i = m := ⟨i.toNat, by omega⟩
    have hm : m < rs.length := by omega
    have hen : rEnd rs (m : Int) = ((endOf rs m : Nat) : Int) := by unfold rEnd; exact if_pos (by omega)
    have hle := (endOf_le rs m hm).2
    rw [hen]
    exact Nat.le_trans (kidsGo_length rs _ (by simpa using hle) _ _) (by simp; omega)
set_option maxRecDepth 100000 in
set_option maxHeartbeats 4000000 in
theorem kidsAll_in (A : Option Addr) (cap : Nat) (rs : List S35) (i : Int) (hi : i = -1 ∨ (0 ≤ i ∧ i < (rs.length : Int))) (w : World) (hC : Kd.C k35 w A rs.length rs) (hcap : rs.length ≤ cap) (hlen : rs.length < 17592186044416) :
    CallsIn Fence.wide 3 Tryd.prog 35 #[.slice A rs.length cap, .int .i64 i] w fun e W' => ∃ v, e = .returned v ∧ Kd.R (Kd.int .i64) 3 W' w.heap.size (fun _ => True) v (kidsOf rs i) ∧ Below w.heap.size w W' := by
  have HC := Aside0.mk hC
  have HIs : ∀ V, Below w.heap.size w V → i ≠ -1 → Calls Tryd.prog 59 #[.slice A rs.length cap, .int .i64 i] V fun e w' => e = .returned (.bool true) ∧ ∃ m, w' = V.drewN m := fun V hV hne =>
    (rows_is.calls A cap rs i true V (Kd.C_below HC.out hV) hcap (by unfold rows_is.f; rw [if_pos (by omega), decide_eq_true (by omega)])).mono fun _ _ h => ⟨h.1, h.2.out⟩
  clear hC
  refine callsIn_of_wp_marks Tryd.func35 rfl trivial ?_ rfl
  simp only [Tryd.ntmps35, List.size_toArray, List.length_cons, List.length_nil, Nat.reduceAdd, Nat.reduceSub, Array.replicate_succ, Array.replicate_zero, List.push_toArray, List.append_toArray, List.nil_append, List.cons_append]
  by_cases h1 : i = -1
  · subst h1
    clear HIs
    gi_wp2_with (gi_at_call 60; refine (kids_in _ _ _ _ _).mono ?_; rintro e w' ⟨rfl, rfl⟩)
    have hb0 := ((Boxed.new w 29 (.slice none 0 0)).alloc (.cells #[.slice A rs.length cap] 22)).alloc (.cells #[.int .i64 (-1)] 3)
    have hb1 := (Boxed.new (w.alloc (.cells #[.slice none 0 0] 29)) 22 (.slice A rs.length cap)).alloc (.cells #[.int .i64 (-1)] 3)
    have hb2 := Boxed.new ((w.alloc (.cells #[.slice none 0 0] 29)).alloc (.cells #[.slice A rs.length cap] 22)) 3 (.int .i64 (-1))
    simp only [World.size_alloc] at hb1 hb2
    obtain ⟨W0, hW0⟩ : ∃ W0, (((w.alloc (.cells #[.slice none 0 0] 29)).alloc (.cells #[.slice A rs.length cap] 22)).alloc (.cells #[.int .i64 (-1)] 3)) = W0 := ⟨_, rfl⟩
    rw [hW0] at hb0 hb1 hb2
    have hs : W0.heap.size = w.heap.size + 3 := by rw [← hW0, World.size_alloc, World.size_alloc, World.size_alloc] <;> rfl
    have hB0 : Below w.heap.size w W0 := by rw [← hW0]; exact (((Below.refl _ w).alloc (Nat.le_refl _) _).alloc (by rw [World.size_alloc]; exact Nat.le_succ _) _).alloc (by rw [World.size_alloc, World.size_alloc]; exact Nat.le_add_right _ 2) _
    rw [hW0]
    clear hW0
    have HB0 := Aside0.mk hB0
    have HS := Aside0.mk hs
    have h0 : KidsI w.heap.size w W0 [] W0 := ⟨⟨.slice none 0 0, hb0, World.ownsRow_nil _ _ _ _⟩, kidsKp_refl _ _ _ _⟩
    refine wpIn_rangeFunc_ownF rfl (by omega) (gf := 79) (lb := #[.pointer (some ⟨w.heap.size + 1, 0, none⟩), .pointer (some ⟨w.heap.size + 1 + 1, 0, none⟩)]) rfl trivial (enters_of Tryd.func79 (by kernel_rfl) rfl)
      (encs := fun x : Int => #[Value.int .i64 x]) (Kp := KidsKp w.heap.size (w.heap.size + 1) (w.heap.size + 2)) (S := fun ys => ys = kidsOf rs (-1)) (Sp := fun _ => True) (N := (kidsOf rs (-1)).length) (w0 := W0)
      (fun l J Jx W hW hJ _ hY hj0 => kids1_in l w.heap.size (w.heap.size + 1) (w.heap.size + 2) cap A rs (-1) (.inl rfl) w HC.out hcap (Nat.le_refl _) J Jx hY W (HB0.out.trans (hW.mono (by omega))) ((hW.block _ (by omega)).trans hb1) ((hW.block _ (by omega)).trans hb2) (fun pre n W h => hJ _ _ _ none h ⟨rfl, rfl, rfl, Nat.le_refl _, fun _ _ _ => rfl⟩ (fun _ e => by cases e)) hj0)
      (fun h k => kidsKp_t h k) (fun W l o o' hl hlo _ _ => ⟨belowK_b (w := W0) (by omega) W l o o' hl hlo (by assumption) (by assumption), World.putObj_heap_other (by omega), World.putObj_heap_other (by omega)⟩) (Below.refl _ _) (fun _ => rfl)
      (KidsI w.heap.size w W0) (fun _ _ _ => False) (by rw [hs]; exact kidsI_own hs) (fun _ => fun _ _ _ _ h _ _ => h) h0
      (fun x => { tmps := #[.slice A rs.length cap, .int .i64 (-1), undef, undef, .slice none 0 0, .pointer (some ⟨w.heap.size, 0, none⟩), .int .i64 x, .int .i64 (-1), .bool false, .bool false, undef, undef, undef, undef, .bool false, .slice A rs.length cap, .int .i64 (-1), .func (.func 79) #[] #[.pointer (some ⟨w.heap.size + 1, 0, none⟩), .pointer (some ⟨w.heap.size + 1 + 1, 0, none⟩)], .int .i64 x, undef, undef, undef, undef, undef], defers := [] }) ?assign ?body ?done ?stop
    case assign =>
      intro l x W K hK
      gi_wp2
      exact hK
    case stop =>
      rintro D c pre W hD _ hx
      exact hx.elim
    case body =>
      rintro l pre x W ⟨⟨v, h1, h2⟩, h3⟩ hpl
      have H1 := Aside0.mk h1
      have H2 := Aside0.mk h2
      have H3 := Aside0.mk h3
      have c1_ : W.cell? ⟨w.heap.size, 0, none⟩ = some v := kids_block h1 rfl
      have f1_ : W.frozen? ⟨w.heap.size, 0, none⟩ = false := Boxed.frozen h1
      have hkl := kidsOf_length rs (-1) (.inl rfl)
      obtain ⟨i0, hi0, hz0, hz1, hz2⟩ := info_parts kids_int
      clear h1 h2 h3
      have hex : W.heap.size + 1 = (W.alloc (.cells #[.int .i64 x] 3)).heap.size := by simp
      have hsz : w.heap.size + 3 ≤ W.heap.size := by have := H3.out.1.size; rw [HS.out] at this; exact this
      gi_wp2_with (gi_at_builtin; refine wpListIn_append_own _ rfl _ _ 29 rfl (w.heap.size + 3) 3 i0 (.int .i64 0) 1 8 Tryd.underlying29 hi0 hz0 hz1 hz2 rfl (by decide) _ _ _ rfl (H2.out.alloc _) ⟨W.heap.size, 0, none⟩ 1 1 [.int .i64 x] rfl rfl ?c1 ?c2 ?c3 ?c4 ?c5 ?_)
      case c1 =>
        intro j u hj
        match j, hj with
        | 0, hj => simp at hj; subst hj; simp [Addr.add]
      case c2 => intro u hu; simp at hu; subst hu; rfl
      case c3 => unfold maxLen; omega
      case c4 => omega
      case c5 => simp; omega
      intro v' w2 hown' hgrow _
      obtain ⟨k1, k2, k3, k4⟩ := kids_more (w := w) HS.out H1.out H2.out H3.out hown' hgrow
      have K1 := Aside0.mk k1
      have K2 := Aside0.mk k2
      have K3 := Aside0.mk k3
      have c2_ : w2.cell? ⟨w.heap.size, 0, none⟩ = some v := Boxed.cell k4
      have f2_ : w2.frozen? ⟨w.heap.size, 0, none⟩ = false := Boxed.frozen k4
      obtain ⟨ao, n', cap', rfl⟩ : ∃ ao n' cap', v' = .slice ao n' cap' := by
        rcases hown'.2 with ⟨hv, _⟩ | ⟨g, cap, cur, hv, _⟩
        · exact ⟨_, _, _, hv⟩
        · exact ⟨_, _, _, hv⟩
      clear k1 k2 k3 k4 hown' hgrow
      gi_wp2
      exact ⟨K1.out, K2.out, K3.out⟩
    case done =>
      rintro D ys W hD rfl ⟨⟨v, h1, h2⟩, h3⟩ hK
      have H1 := Aside0.mk h1
      have H2 := Aside0.mk h2
      have H3 := Aside0.mk h3
      have HK := Aside0.mk hK
      have c1_ : W.cell? ⟨w.heap.size, 0, none⟩ = some v := kids_block h1 rfl
      clear h1 h2 h3 hK
      gi_wp2
      refine ⟨by simp, .inl ⟨_, _, rfl, run_takeDeferred HK.out, ?_⟩⟩
      have hI := (kidsI_own (w := w) HS.out).putObj (.deferred none) ⟨⟨v, H1.out, H2.out⟩, H3.out⟩ (by rw [← HS.out]; exact hD) HK.out rfl
      obtain ⟨⟨v2, j1, j2⟩, j3⟩ := hI
      obtain rfl : v2 = v := by
        have e1 := (World.putObj_heap_other (w := W) (o := .deferred none) (show w.heap.size ≠ D by have := HS.out; omega)).symm.trans j1
        rw [H1.out] at e1
        injection e1 with e1; injection e1 with e1; injection e1 with e1; injection e1 with e1; exact e1.symm
      refine ⟨v2, ?_, v2, rfl, ?_, HB0.out.trans j3.1⟩
      · simp [results, Tryd.f35, go_sem]
      · exact Kd.R_of_own (kids_lower j2) (fun _ _ => trivial)
  · have h2 := HIs w (Below.refl _ _) h1
    have hneg : (i != -1) = true := bne_iff_ne.mpr h1
    gi_wp2_with (first | (gi_at_call 59; refine (callsIn_wide.2 h2).mono ?_; clear h2; rintro e w' ⟨rfl, m, rfl⟩) | (gi_at_call 60; refine (kids_in _ _ _ _ _).mono ?_; rintro e w' ⟨rfl, rfl⟩))
    have hb0 := ((Boxed.new (w.drewN m) 29 (.slice none 0 0)).alloc (.cells #[.slice A rs.length cap] 22)).alloc (.cells #[.int .i64 i] 3)
    have hb1 := (Boxed.new ((w.drewN m).alloc (.cells #[.slice none 0 0] 29)) 22 (.slice A rs.length cap)).alloc (.cells #[.int .i64 i] 3)
    have hb2 := Boxed.new (((w.drewN m).alloc (.cells #[.slice none 0 0] 29)).alloc (.cells #[.slice A rs.length cap] 22)) 3 (.int .i64 i)
    simp only [World.size_alloc] at hb1 hb2
    obtain ⟨W0, hW0⟩ : ∃ W0, ((((w.drewN m).alloc (.cells #[.slice none 0 0] 29)).alloc (.cells #[.slice A rs.length cap] 22)).alloc (.cells #[.int .i64 i] 3)) = W0 := ⟨_, rfl⟩
    rw [hW0] at hb0 hb1 hb2
    have hs : W0.heap.size = w.heap.size + 3 := by rw [← hW0, World.size_alloc, World.size_alloc, World.size_alloc] <;> rfl
    have hB0 : Below w.heap.size w W0 := by rw [← hW0]; exact (((pw_below_drewN (Below.refl _ w) m).alloc (Nat.le_refl _) _).alloc (by rw [World.size_alloc]; exact Nat.le_succ _) _).alloc (by rw [World.size_alloc, World.size_alloc]; exact Nat.le_add_right _ 2) _
    rw [hW0]
    clear hW0
    have HB0 := Aside0.mk hB0
    have HS := Aside0.mk hs
    have h0 : KidsI w.heap.size w W0 [] W0 := ⟨⟨.slice none 0 0, hb0, World.ownsRow_nil _ _ _ _⟩, kidsKp_refl _ _ _ _⟩
    refine wpIn_rangeFunc_ownF rfl (by omega) (gf := 79) (lb := #[.pointer (some ⟨w.heap.size + 1, 0, none⟩), .pointer (some ⟨w.heap.size + 1 + 1, 0, none⟩)]) rfl trivial (enters_of Tryd.func79 (by kernel_rfl) rfl)
      (encs := fun x : Int => #[Value.int .i64 x]) (Kp := KidsKp w.heap.size (w.heap.size + 1) (w.heap.size + 2)) (S := fun ys => ys = kidsOf rs i) (Sp := fun _ => True) (N := (kidsOf rs i).length) (w0 := W0)
      (fun l J Jx W hW hJ _ hY hj0 => kids1_in l w.heap.size (w.heap.size + 1) (w.heap.size + 2) cap A rs i hi w HC.out hcap (Nat.le_refl _) J Jx hY W (HB0.out.trans (hW.mono (by omega))) ((hW.block _ (by omega)).trans hb1) ((hW.block _ (by omega)).trans hb2) (fun pre n W h => hJ _ _ _ none h ⟨rfl, rfl, rfl, Nat.le_refl _, fun _ _ _ => rfl⟩ (fun _ e => by cases e)) hj0)
      (fun h k => kidsKp_t h k) (fun W l o o' hl hlo _ _ => ⟨belowK_b (w := W0) (by omega) W l o o' hl hlo (by assumption) (by assumption), World.putObj_heap_other (by omega), World.putObj_heap_other (by omega)⟩) (Below.refl _ _) (fun _ => rfl)
      (KidsI w.heap.size w W0) (fun _ _ _ => False) (by rw [hs]; exact kidsI_own hs) (fun _ => fun _ _ _ _ h _ _ => h) h0
      (fun x => { tmps := #[.slice A rs.length cap, .int .i64 i, undef, undef, .slice none 0 0, .pointer (some ⟨w.heap.size, 0, none⟩), .int .i64 x, .int .i64 i, .bool true, .bool true, .slice A rs.length cap, .int .i64 i, .bool true, .bool false, .bool false, .slice A rs.length cap, .int .i64 i, .func (.func 79) #[] #[.pointer (some ⟨w.heap.size + 1, 0, none⟩), .pointer (some ⟨w.heap.size + 1 + 1, 0, none⟩)], .int .i64 x, undef, undef, undef, undef, undef], defers := [] }) ?assign ?body ?done ?stop
    case assign =>
      intro l x W K hK
      gi_wp2
      exact hK
    case stop =>
      rintro D c pre W hD _ hx
      exact hx.elim
    case body =>
      rintro l pre x W ⟨⟨v, h1, h2⟩, h3⟩ hpl
      have H1 := Aside0.mk h1
      have H2 := Aside0.mk h2
      have H3 := Aside0.mk h3
      have c1_ : W.cell? ⟨w.heap.size, 0, none⟩ = some v := kids_block h1 rfl
      have f1_ : W.frozen? ⟨w.heap.size, 0, none⟩ = false := Boxed.frozen h1
      have hkl := kidsOf_length rs i hi
      obtain ⟨i0, hi0, hz0, hz1, hz2⟩ := info_parts kids_int
      clear h1 h2 h3
      have hex : W.heap.size + 1 = (W.alloc (.cells #[.int .i64 x] 3)).heap.size := by simp
      have hsz : w.heap.size + 3 ≤ W.heap.size := by have := H3.out.1.size; rw [HS.out] at this; exact this
      gi_wp2_with (gi_at_builtin; refine wpListIn_append_own _ rfl _ _ 29 rfl (w.heap.size + 3) 3 i0 (.int .i64 0) 1 8 Tryd.underlying29 hi0 hz0 hz1 hz2 rfl (by decide) _ _ _ rfl (H2.out.alloc _) ⟨W.heap.size, 0, none⟩ 1 1 [.int .i64 x] rfl rfl ?c1 ?c2 ?c3 ?c4 ?c5 ?_)
      case c1 =>
        intro j u hj
        match j, hj with
        | 0, hj => simp at hj; subst hj; simp [Addr.add]
      case c2 => intro u hu; simp at hu; subst hu; rfl
      case c3 => unfold maxLen; omega
      case c4 => omega
      case c5 => simp; omega
      intro v' w2 hown' hgrow _
      obtain ⟨k1, k2, k3, k4⟩ := kids_more (w := w) HS.out H1.out H2.out H3.out hown' hgrow
      have K1 := Aside0.mk k1
      have K2 := Aside0.mk k2
      have K3 := Aside0.mk k3
      have c2_ : w2.cell? ⟨w.heap.size, 0, none⟩ = some v := Boxed.cell k4
      have f2_ : w2.frozen? ⟨w.heap.size, 0, none⟩ = false := Boxed.frozen k4
      obtain ⟨ao, n', cap', rfl⟩ : ∃ ao n' cap', v' = .slice ao n' cap' := by
        rcases hown'.2 with ⟨hv, _⟩ | ⟨g, cap, cur, hv, _⟩
        · exact ⟨_, _, _, hv⟩
        · exact ⟨_, _, _, hv⟩
      clear k1 k2 k3 k4 hown' hgrow
      gi_wp2
      exact ⟨K1.out, K2.out, K3.out⟩
    case done =>
      rintro D ys W hD rfl ⟨⟨v, h1, h2⟩, h3⟩ hK
      have H1 := Aside0.mk h1
      have H2 := Aside0.mk h2
      have H3 := Aside0.mk h3
      have HK := Aside0.mk hK
      have c1_ : W.cell? ⟨w.heap.size, 0, none⟩ = some v := kids_block h1 rfl
      clear h1 h2 h3 hK
      gi_wp2
      refine ⟨by simp, .inl ⟨_, _, rfl, run_takeDeferred HK.out, ?_⟩⟩
      have hI := (kidsI_own (w := w) HS.out).putObj (.deferred none) ⟨⟨v, H1.out, H2.out⟩, H3.out⟩ (by rw [← HS.out]; exact hD) HK.out rfl
      obtain ⟨⟨v2, j1, j2⟩, j3⟩ := hI
      obtain rfl : v2 = v := by
        have e1 := (World.putObj_heap_other (w := W) (o := .deferred none) (show w.heap.size ≠ D by have := HS.out; omega)).symm.trans j1
        rw [H1.out] at e1
        injection e1 with e1; injection e1 with e1; injection e1 with e1; injection e1 with e1; exact e1.symm
      refine ⟨v2, ?_, v2, rfl, ?_, HB0.out.trans j3.1⟩
      · simp [results, Tryd.f35, go_sem]
      · exact Kd.R_of_own (kids_lower j2) (fun _ _ => trivial)
set_option maxHeartbeats 2000000 in
theorem rows_Kids.calls (A0 : Option Addr) (c0 : Nat) (l0 : List S35) (a1 : Int) (r : List Int) (w : World) (hr0 : Kd.C k35 w A0 l0.length l0) (hc0 : l0.length ≤ c0) (h : rows_Kids.f l0 a1 = some r) :
    Calls Tryd.prog 35 #[.slice A0 l0.length c0, .int .i64 a1] w fun e w' => ∃ v0_ : Value, e = .returned v0_ ∧ Kd.R (Kd.int .i64) 3 w' w.heap.size (fun _ => True) v0_ r ∧ Below w.heap.size w w' := by
  unfold rows_Kids.f at h
  split at h
  case isTrue hi =>
    split at h
    case isFalse => cases h
    rename_i hlen
    cases h
    exact callsIn_wide.1 (kidsAll_in A0 c0 l0 a1 hi w hr0 hc0 hlen)
  case isFalse hi =>
    cases h
    have hne : ¬ a1 = -1 := fun e => hi (.inl e)
    have hneg : (a1 != -1) = true := bne_iff_ne.mpr hne
    have hrow : rows_is.f l0 a1 = some false := by
      unfold rows_is.f
      by_cases h0 : a1 ≥ 0
      · rw [if_pos h0, decide_eq_false (fun h => hi (.inr ⟨h0, h⟩))]
      · rw [if_neg h0]
    have hc := rows_is.calls A0 c0 l0 a1 false w hr0 hc0 hrow
    clear hr0
    go_enter Tryd.func35, Tryd.ntmps35
    go_wp2_with (go_at_call 59; refine hc.mono ?_; rintro e w1 ⟨rfl, hd⟩)
    go_ret
    obtain ⟨n, rfl⟩ := hd.out
    exact ⟨_, rfl, Kd.R_nil _ _ _ _ _, pw_below_drewN (Below.refl _ _) _⟩
end Go.Proofs.YtpnhjipaeggcpaaDoor.X
end
section
namespace Go.Proofs.YtpnhjipaeggcpaaDoor.X
open Go.RowKit Go.Proofs.YtpnhjipaeggcpaaDoorW.PrintWords Go.Proofs.YtpnhjipaeggcpaaDoorW.PrintLast Go.Proofs.YtpnhjipaeggcpaaDoorW.PrintMore
attribute [local go_sem] max2_int min2_int max_two min_two max_three min_three max_four min_four
def stringslite_HasPrefix.f (a0 : ByteArray) (a1 : ByteArray) : Option (Bool) := if (a0.size : Int) ≥ (a1.size : Int) then (if 0 ≤ (a1.size : Int) then (if (a1.size : Int) ≤ (a0.size : Int) then (some ((a0.extract 0 ((a1.size : Int) : Int).toNat).toList == a1.toList)) else (none)) else (none)) else (some false)
set_option maxHeartbeats 8000000 in
set_option maxRecDepth 100000 in
theorem stringslite_HasPrefix.calls (a0 : ByteArray) (a1 : ByteArray) (r : Bool) (w : World) (h : stringslite_HasPrefix.f a0 a1 = some r) :
  Calls Tryd.prog 71 #[.string a0, .string a1] w fun e w' => e = .returned (.bool r) ∧ Drawn0 w w' := by
 have H : (if (a0.size : Int) ≥ (a1.size : Int) then (if 0 ≤ (a1.size : Int) then (if (a1.size : Int) ≤ (a0.size : Int) then (some ((a0.extract 0 ((a1.size : Int) : Int).toNat).toList == a1.toList)) else (none)) else (none)) else (some false)) = some r := h
 clear h
 by_cases c3 : (a0.size : Int) ≥ (a1.size : Int)
 ·rw [if_pos c3] at H
  have c3b0 : decide ((a1.size : Int) ≤ (a0.size : Int)) = true := decide_eq_true c3
  have c3b1 : decide (a1.size ≤ a0.size) = true := decide_eq_true (Int.ofNat_le.mp c3)
  clear c3
  by_cases c4 : 0 ≤ (a1.size : Int)
  rotate_left
  ·rw [if_neg c4] at H
   exact absurd H (by simp)
  rw [if_pos c4] at H
  have c4b0 := eq_true c4
  have c4b1 : decide (0 ≤ (a1.size : Int)) = true := decide_eq_true c4
  clear c4
  by_cases c5 : (a1.size : Int) ≤ (a0.size : Int)
  rotate_left
  ·rw [if_neg c5] at H
   exact absurd H (by simp)
  rw [if_pos c5] at H
  have c5b0 := eq_true c5
  have c5b1 : decide ((a1.size : Int) ≤ (a0.size : Int)) = true := decide_eq_true c5
  clear c5
  obtain rfl := Option.some.inj H
  go_enter Tryd.func71, Tryd.ntmps71
  go_wp2
  go_ret
  exact ⟨y4_, y3_⟩
 ·rw [if_neg c3] at H
  have c3b0 : decide ((a1.size : Int) ≤ (a0.size : Int)) = false := decide_eq_false c3
  have c3b1 : decide (a1.size ≤ a0.size) = false := decide_eq_false (fun h => c3 (Int.ofNat_le.mpr h))
  clear c3
  obtain rfl := Option.some.inj H
  go_enter Tryd.func71, Tryd.ntmps71
  go_wp2
  go_ret
  exact ⟨y4_, y3_⟩
end Go.Proofs.YtpnhjipaeggcpaaDoor.X
end
section
namespace Go.Proofs.YtpnhjipaeggcpaaDoor.X
open Go.RowKit Go.Proofs.YtpnhjipaeggcpaaDoorW.PrintWords Go.Proofs.YtpnhjipaeggcpaaDoorW.PrintLast Go.Proofs.YtpnhjipaeggcpaaDoorW.PrintMore
attribute [local go_sem] max2_int min2_int max_two min_two max_three min_three max_four min_four
def strings_HasPrefix.f (a0 : ByteArray) (a1 : ByteArray) : Option (Bool) := (stringslite_HasPrefix.f a0 a1).bind fun t272 => (some t272)
set_option maxHeartbeats 8000000 in
set_option maxRecDepth 100000 in
theorem strings_HasPrefix.calls (a0 : ByteArray) (a1 : ByteArray) (r : Bool) (w : World) (h : strings_HasPrefix.f a0 a1 = some r) :
  Calls Tryd.prog 52 #[.string a0, .string a1] w fun e w' => e = .returned (.bool r) ∧ Drawn0 w w' := by
 have H : ((stringslite_HasPrefix.f a0 a1).bind fun t272 => (some t272)) = some r := h
 clear h
 replace H := Option.bind_eq_some_iff.mp H
 obtain ⟨t272, A30, H⟩ := H
 have A3 := Aside0.mk A30
 clear A30
 obtain rfl := Option.some.inj H
 go_enter Tryd.func52, Tryd.ntmps52
 go_wp2_with (first | ((with_reducible refine gate_callee (f := 71) rfl ?_); refine goesL_ (some 7) rfl rfl Tryd.func71 (by kernel_rfl) rfl #[.string a0, .string a1] rfl y14_ ?_; (with_reducible refine (stringslite_HasPrefix.calls a0 a1 t272 _ A3.out).mono ?_); rintro e w' ⟨rfl, ⟨nd, rfl⟩⟩; refine ⟨_, rfl, ?_⟩))
 go_ret
 exact ⟨y4_, y3_⟩
end Go.Proofs.YtpnhjipaeggcpaaDoor.X
end
section
namespace Go.Proofs.YtpnhjipaeggcpaaDoor.X
open Go.RowKit Go.Proofs.YtpnhjipaeggcpaaDoorW.PrintWords Go.Proofs.YtpnhjipaeggcpaaDoorW.PrintLast Go.Proofs.YtpnhjipaeggcpaaDoorW.PrintMore
attribute [local go_sem] max2_int min2_int max_two min_two max_three min_three max_four min_four
def names_among.l0 : Nat → ByteArray → List ByteArray → Int → Int → Option (Bool)
 | 0, _, _, _, _ => none
 | k + 1, x0, x7, x8, x9 => if x9 < x8 then (if 0 ≤ x9 then (if x9 < (x7.length : Int) then (if (rdOf ByteArray.empty x7 x9).toList = x0.toList then (some true) else (names_among.l0 k x0 x7 x8 (wrap64 (x9 + 1)))) else (none)) else (none)) else (some false)
def names_among.f (k : Nat) (a0 : ByteArray) (l1 : List ByteArray) : Option (Bool) := names_among.l0 k a0 l1 (l1.length : Int) 0
set_option maxHeartbeats 8000000 in
set_option maxRecDepth 100000 in
theorem names_among.calls (k : Nat) (a0 : ByteArray) (A1 : Option Addr) (c1 : Nat) (l1 : List ByteArray) (r : Bool) (w : World) (hr1 : Kd.C Kd.string w A1 l1.length l1) (hc1 : l1.length ≤ c1) (h : names_among.f k a0 l1 = some r) :
  Calls Tryd.prog 42 #[.string a0, .slice A1 l1.length c1] w fun e w' => e = .returned (.bool r) ∧ Drawn0 w w' := by
 have HR1 := Aside0.mk hr1
 have HC1 := Aside0.mk hc1
 clear hr1 hc1
 have H : (names_among.l0 k a0 l1 (l1.length : Int) 0) = some r := h
 clear h
 have H' := Aside0.mk H
 clear H
 go_enter Tryd.func42, Tryd.ntmps42
 go_wp2
 go_loopg [9] k (fun kq v9 w' => ∃ (x9_1 : Int), v9 = .int .i64 x9_1 ∧ Aside0 (names_among.l0 kq a0 l1 (l1.length : Int) x9_1 = some r) ∧ Aside0 (kq ≤ k) ∧ Drawn0 w w')
 case atStart => exact ⟨(0), y4_, H', ⟨Nat.le_refl _⟩, y3_⟩
 case round =>
  clear H'
  try clear c1
  try clear p2
  obtain ⟨x9_1, rfl, HA, HK1, ⟨m1, rfl⟩⟩ := hrel
  cases gk with
  | zero => exact absurd HA.out (by simp [names_among.l0])
  | succ k1 =>
   have H := HA.out
   clear HA
   simp only [names_among.l0] at H
   by_cases c3 : x9_1 < (l1.length : Int)
   ·rw [if_pos c3] at H
    have c3b0 : decide (x9_1 < (l1.length : Int)) = true := decide_eq_true c3
    clear c3
    by_cases c4 : 0 ≤ x9_1
    rotate_left
    ·rw [if_neg c4] at H
     exact absurd H (by simp)
    rw [if_pos c4] at H
    have c4b0 : decide (0 ≤ x9_1) = true := decide_eq_true c4
    clear c4
    by_cases c5 : x9_1 < (l1.length : Int)
    rotate_left
    ·rw [if_neg c5] at H
     exact absurd H (by simp)
    rw [if_pos c5] at H
    have c5b0 : decide (x9_1 < (l1.length : Int)) = true := decide_eq_true c5
    clear c5
    by_cases c6 : (rdOf ByteArray.empty l1 x9_1).toList = a0.toList
    ·rw [if_pos c6] at H
     have c6b0 : ((rdOf ByteArray.empty l1 x9_1).toList == a0.toList) = true := beq_iff_eq.mpr c6
     have c6b1 : ((rdOf ByteArray.empty l1 x9_1).toList != a0.toList) = false := bne_eq_false_iff_eq.mpr c6
     clear c6
     obtain rfl := Option.some.inj H
     have p185 : 0 ≤ (x9_1 : Int) := of_decide_eq_true y2_
     have q185 : x9_1 < (l1.length : Int) := of_decide_eq_true y2_
     obtain ⟨ad185, e185, hx185_0⟩ := Kd.at_string HR1.out x9_1 p185 q185
     cases e185
     replace p185 := eq_true p185
     replace q185 := eq_true q185
     go_wp2
     go_ret
     exact ⟨y4_, y3_⟩
    ·rw [if_neg c6] at H
     have c6b0 : ((rdOf ByteArray.empty l1 x9_1).toList == a0.toList) = false := beq_eq_false_iff_ne.mpr c6
     have c6b1 : ((rdOf ByteArray.empty l1 x9_1).toList != a0.toList) = true := bne_iff_ne.mpr c6
     have H' := Aside0.mk H
     clear H
     have p185 : 0 ≤ (x9_1 : Int) := of_decide_eq_true y2_
     have q185 : x9_1 < (l1.length : Int) := of_decide_eq_true y2_
     obtain ⟨ad185, e185, hx185_0⟩ := Kd.at_string HR1.out x9_1 p185 q185
     cases e185
     replace p185 := eq_true p185
     replace q185 := eq_true q185
     go_wp2
     go_roundg k1
     case measure => have := HK1.out; omega
     case rel => exact ⟨(wrap64 (x9_1 + 1)), y4_, H', ⟨by have := HK1.out; omega⟩, y3_⟩
   ·rw [if_neg c3] at H
    have c3b0 : decide (x9_1 < (l1.length : Int)) = false := decide_eq_false c3
    clear c3
    obtain rfl := Option.some.inj H
    go_wp2
    go_ret
    exact ⟨y4_, y3_⟩
end Go.Proofs.YtpnhjipaeggcpaaDoor.X
end
section
namespace Go.Proofs.YtpnhjipaeggcpaaDoor.X
open Go.RowKit Go.Proofs.YtpnhjipaeggcpaaDoorW.PrintWords Go.Proofs.YtpnhjipaeggcpaaDoorW.PrintLast Go.Proofs.YtpnhjipaeggcpaaDoorW.PrintMore
attribute [local go_sem] max2_int min2_int max_two min_two max_three min_three max_four min_four
def names_Raw.f (k : Nat) (a0 : ByteArray) : Option (Bool) := (names_among.f k a0 (([(⟨#[105, 102, 114, 97, 109, 101]⟩ : ByteArray), (⟨#[110, 111, 101, 109, 98, 101, 100]⟩ : ByteArray), (⟨#[110, 111, 102, 114, 97, 109, 101, 115]⟩ : ByteArray), (⟨#[115, 99, 114, 105, 112, 116]⟩ : ByteArray), (⟨#[115, 116, 121, 108, 101]⟩ : ByteArray), (⟨#[120, 109, 112]⟩ : ByteArray)] : List ByteArray))).bind fun t382 => (some t382)
set_option maxHeartbeats 8000000 in
set_option maxRecDepth 100000 in
theorem names_Raw.calls (k : Nat) (a0 : ByteArray) (r : Bool) (w : World) (h : names_Raw.f k a0 = some r) :
  Calls Tryd.prog 40 #[.string a0] w fun e w' => e = .returned (.bool r) ∧ Below w.heap.size w w' := by
 have HB := Aside0.mk (Below.refl w.heap.size w)
 have H : ((names_among.f k a0 (([(⟨#[105, 102, 114, 97, 109, 101]⟩ : ByteArray), (⟨#[110, 111, 101, 109, 98, 101, 100]⟩ : ByteArray), (⟨#[110, 111, 102, 114, 97, 109, 101, 115]⟩ : ByteArray), (⟨#[115, 99, 114, 105, 112, 116]⟩ : ByteArray), (⟨#[115, 116, 121, 108, 101]⟩ : ByteArray), (⟨#[120, 109, 112]⟩ : ByteArray)] : List ByteArray))).bind fun t382 => (some t382)) = some r := h
 clear h
 obtain ⟨y379, hy379⟩ : ∃ y_ : List ByteArray, y_ = (([(⟨#[105, 102, 114, 97, 109, 101]⟩ : ByteArray), (⟨#[110, 111, 101, 109, 98, 101, 100]⟩ : ByteArray), (⟨#[110, 111, 102, 114, 97, 109, 101, 115]⟩ : ByteArray), (⟨#[115, 99, 114, 105, 112, 116]⟩ : ByteArray), (⟨#[115, 116, 121, 108, 101]⟩ : ByteArray), (⟨#[120, 109, 112]⟩ : ByteArray)] : List ByteArray)) := ⟨_, rfl⟩
 replace H : ((names_among.f k a0 y379).bind fun t382 => (some t382)) = some r := by first | (rw [hy379]; with_reducible exact H) | (have H2_ := (Option.bind_some _ _).symm.trans H; rw [hy379]; with_reducible exact H2_) | (have H2_ := (Option.bind_some _ _).symm.trans H; with_reducible exact H2_) | with_reducible exact H | (rw [hy379]; exact H) | exact H
 have Ny379 := Aside0.mk hy379
 clear hy379
 replace H := Option.bind_eq_some_iff.mp H
 obtain ⟨t382, A20, H⟩ := H
 have A2 := Aside0.mk A20
 clear A20
 obtain rfl := Option.some.inj H
 go_enter Tryd.func40, Tryd.ntmps40
 go_wp2_with (first | ((with_reducible refine gate_dst (N := 4) rfl ?_); refine Kd.R_lit Kd.string _ 9 ?hg (N := 4) ?hd (xs := ([(⟨#[105, 102, 114, 97, 109, 101]⟩ : ByteArray), (⟨#[110, 111, 101, 109, 98, 101, 100]⟩ : ByteArray), (⟨#[110, 111, 102, 114, 97, 109, 101, 115]⟩ : ByteArray), (⟨#[115, 99, 114, 105, 112, 116]⟩ : ByteArray), (⟨#[115, 116, 121, 108, 101]⟩ : ByteArray), (⟨#[120, 109, 112]⟩ : ByteArray)] : List ByteArray)) (inner := [.string (⟨#[105, 102, 114, 97, 109, 101]⟩ : ByteArray), .string (⟨#[110, 111, 101, 109, 98, 101, 100]⟩ : ByteArray), .string (⟨#[110, 111, 102, 114, 97, 109, 101, 115]⟩ : ByteArray), .string (⟨#[115, 99, 114, 105, 112, 116]⟩ : ByteArray), .string (⟨#[115, 116, 121, 108, 101]⟩ : ByteArray), .string (⟨#[120, 109, 112]⟩ : ByteArray)]) (ok := fun _ => True) (okp := fun _ => True) ?hr ?hp (fun _ hk => hk) trivial (Below.refl _ _) (Nat.le_refl _) (by simp) ?_; (case hd => rfl); (case hg => rfl); (case hr => first | (go_simp; done) | (go_simp; rfl)); (case hp => exact (Reps.one (show Kd.M Kd.string _ _ _ (⟨#[105, 102, 114, 97, 109, 101]⟩ : ByteArray) [.string (⟨#[105, 102, 114, 97, 109, 101]⟩ : ByteArray)] from rfl) (Reps.one (show Kd.M Kd.string _ _ _ (⟨#[110, 111, 101, 109, 98, 101, 100]⟩ : ByteArray) [.string (⟨#[110, 111, 101, 109, 98, 101, 100]⟩ : ByteArray)] from rfl) (Reps.one (show Kd.M Kd.string _ _ _ (⟨#[110, 111, 102, 114, 97, 109, 101, 115]⟩ : ByteArray) [.string (⟨#[110, 111, 102, 114, 97, 109, 101, 115]⟩ : ByteArray)] from rfl) (Reps.one (show Kd.M Kd.string _ _ _ (⟨#[115, 99, 114, 105, 112, 116]⟩ : ByteArray) [.string (⟨#[115, 99, 114, 105, 112, 116]⟩ : ByteArray)] from rfl) (Reps.one (show Kd.M Kd.string _ _ _ (⟨#[115, 116, 121, 108, 101]⟩ : ByteArray) [.string (⟨#[115, 116, 121, 108, 101]⟩ : ByteArray)] from rfl) (Reps.one (show Kd.M Kd.string _ _ _ (⟨#[120, 109, 112]⟩ : ByteArray) [.string (⟨#[120, 109, 112]⟩ : ByteArray)] from rfl) (Reps.none _ _)))))))); intro v380 w3 ho4 hb hg_ hnew_; clear hg_ hnew_; (first | rw [← Ny379.out] at ho4 | (simp only [Int.reduceToNat] at ho4; rw [← Ny379.out] at ho4)); have n0_ := Aside0.mk (Kd.R_lower ho4 (below_size y13_)); have n1_ := Aside0.mk (below_step y13_ hb); clear HB; have HO381 := n0_; have HB := n1_; clear n0_ n1_; clear hb ho4; obtain ⟨Ao5, co5, eo5⟩ := Kd.R_slice HO381.out; subst eo5) | ((with_reducible refine gate_callee (f := 42) rfl ?_); refine goesL_ (some 5) rfl rfl Tryd.func42 (by kernel_rfl) rfl #[.string a0, .slice Ao5 y379.length co5] rfl y14_ ?_; (with_reducible refine (names_among.calls k a0 _ _ y379 t382 _ ?side1 ?side2 A2.out).mono ?_); (case side1 => repeat (first | exact (Kd.R_reads' HO381.out).2.2 | (with_reducible refine Kd.C_alloc ?_ _) | (with_reducible refine Kd.C_drewN ?_ _) | (with_reducible refine Kd.C_drew ?_))); (case side2 => exact (Kd.R_reads' HO381.out).2.1); rintro e w' ⟨rfl, ⟨nd, rfl⟩⟩; refine ⟨_, rfl, ?_⟩))
 go_ret
 exact ⟨y11_, y13_⟩
end Go.Proofs.YtpnhjipaeggcpaaDoor.X
end
section
namespace Go.Proofs.YtpnhjipaeggcpaaDoor.X
open Go.RowKit Go.Proofs.YtpnhjipaeggcpaaDoorW.PrintWords Go.Proofs.YtpnhjipaeggcpaaDoorW.PrintLast Go.Proofs.YtpnhjipaeggcpaaDoorW.PrintMore
attribute [local go_sem] max2_int min2_int max_two min_two max_three min_three max_four min_four
def names_Void.f (k : Nat) (a0 : ByteArray) : Option (Bool) := (names_among.f k a0 (([(⟨#[97, 114, 101, 97]⟩ : ByteArray), (⟨#[98, 97, 115, 101]⟩ : ByteArray), (⟨#[98, 114]⟩ : ByteArray), (⟨#[99, 111, 108]⟩ : ByteArray), (⟨#[101, 109, 98, 101, 100]⟩ : ByteArray), (⟨#[104, 114]⟩ : ByteArray), (⟨#[105, 109, 103]⟩ : ByteArray), (⟨#[105, 110, 112, 117, 116]⟩ : ByteArray), (⟨#[108, 105, 110, 107]⟩ : ByteArray), (⟨#[109, 101, 116, 97]⟩ : ByteArray), (⟨#[112, 97, 114, 97, 109]⟩ : ByteArray), (⟨#[115, 111, 117, 114, 99, 101]⟩ : ByteArray), (⟨#[116, 114, 97, 99, 107]⟩ : ByteArray), (⟨#[119, 98, 114]⟩ : ByteArray)] : List ByteArray))).bind fun t189 => (some t189)
set_option maxHeartbeats 8000000 in
set_option maxRecDepth 100000 in
theorem names_Void.calls (k : Nat) (a0 : ByteArray) (r : Bool) (w : World) (h : names_Void.f k a0 = some r) :
  Calls Tryd.prog 26 #[.string a0] w fun e w' => e = .returned (.bool r) ∧ Below w.heap.size w w' := by
 have HB := Aside0.mk (Below.refl w.heap.size w)
 have H : ((names_among.f k a0 (([(⟨#[97, 114, 101, 97]⟩ : ByteArray), (⟨#[98, 97, 115, 101]⟩ : ByteArray), (⟨#[98, 114]⟩ : ByteArray), (⟨#[99, 111, 108]⟩ : ByteArray), (⟨#[101, 109, 98, 101, 100]⟩ : ByteArray), (⟨#[104, 114]⟩ : ByteArray), (⟨#[105, 109, 103]⟩ : ByteArray), (⟨#[105, 110, 112, 117, 116]⟩ : ByteArray), (⟨#[108, 105, 110, 107]⟩ : ByteArray), (⟨#[109, 101, 116, 97]⟩ : ByteArray), (⟨#[112, 97, 114, 97, 109]⟩ : ByteArray), (⟨#[115, 111, 117, 114, 99, 101]⟩ : ByteArray), (⟨#[116, 114, 97, 99, 107]⟩ : ByteArray), (⟨#[119, 98, 114]⟩ : ByteArray)] : List ByteArray))).bind fun t189 => (some t189)) = some r := h
 clear h
 obtain ⟨y186, hy186⟩ : ∃ y_ : List ByteArray, y_ = (([(⟨#[97, 114, 101, 97]⟩ : ByteArray), (⟨#[98, 97, 115, 101]⟩ : ByteArray), (⟨#[98, 114]⟩ : ByteArray), (⟨#[99, 111, 108]⟩ : ByteArray), (⟨#[101, 109, 98, 101, 100]⟩ : ByteArray), (⟨#[104, 114]⟩ : ByteArray), (⟨#[105, 109, 103]⟩ : ByteArray), (⟨#[105, 110, 112, 117, 116]⟩ : ByteArray), (⟨#[108, 105, 110, 107]⟩ : ByteArray), (⟨#[109, 101, 116, 97]⟩ : ByteArray), (⟨#[112, 97, 114, 97, 109]⟩ : ByteArray), (⟨#[115, 111, 117, 114, 99, 101]⟩ : ByteArray), (⟨#[116, 114, 97, 99, 107]⟩ : ByteArray), (⟨#[119, 98, 114]⟩ : ByteArray)] : List ByteArray)) := ⟨_, rfl⟩
 replace H : ((names_among.f k a0 y186).bind fun t189 => (some t189)) = some r := by first | (rw [hy186]; with_reducible exact H) | (have H2_ := (Option.bind_some _ _).symm.trans H; rw [hy186]; with_reducible exact H2_) | (have H2_ := (Option.bind_some _ _).symm.trans H; with_reducible exact H2_) | with_reducible exact H | (rw [hy186]; exact H) | exact H
 have Ny186 := Aside0.mk hy186
 clear hy186
 replace H := Option.bind_eq_some_iff.mp H
 obtain ⟨t189, A20, H⟩ := H
 have A2 := Aside0.mk A20
 clear A20
 obtain rfl := Option.some.inj H
 go_enter Tryd.func26, Tryd.ntmps26
 go_wp2_with (first | ((with_reducible refine gate_dst (N := 4) rfl ?_); refine Kd.R_lit Kd.string _ 9 ?hg (N := 4) ?hd (xs := ([(⟨#[97, 114, 101, 97]⟩ : ByteArray), (⟨#[98, 97, 115, 101]⟩ : ByteArray), (⟨#[98, 114]⟩ : ByteArray), (⟨#[99, 111, 108]⟩ : ByteArray), (⟨#[101, 109, 98, 101, 100]⟩ : ByteArray), (⟨#[104, 114]⟩ : ByteArray), (⟨#[105, 109, 103]⟩ : ByteArray), (⟨#[105, 110, 112, 117, 116]⟩ : ByteArray), (⟨#[108, 105, 110, 107]⟩ : ByteArray), (⟨#[109, 101, 116, 97]⟩ : ByteArray), (⟨#[112, 97, 114, 97, 109]⟩ : ByteArray), (⟨#[115, 111, 117, 114, 99, 101]⟩ : ByteArray), (⟨#[116, 114, 97, 99, 107]⟩ : ByteArray), (⟨#[119, 98, 114]⟩ : ByteArray)] : List ByteArray)) (inner := [.string (⟨#[97, 114, 101, 97]⟩ : ByteArray), .string (⟨#[98, 97, 115, 101]⟩ : ByteArray), .string (⟨#[98, 114]⟩ : ByteArray), .string (⟨#[99, 111, 108]⟩ : ByteArray), .string (⟨#[101, 109, 98, 101, 100]⟩ : ByteArray), .string (⟨#[104, 114]⟩ : ByteArray), .string (⟨#[105, 109, 103]⟩ : ByteArray), .string (⟨#[105, 110, 112, 117, 116]⟩ : ByteArray), .string (⟨#[108, 105, 110, 107]⟩ : ByteArray), .string (⟨#[109, 101, 116, 97]⟩ : ByteArray), .string (⟨#[112, 97, 114, 97, 109]⟩ : ByteArray), .string (⟨#[115, 111, 117, 114, 99, 101]⟩ : ByteArray), .string (⟨#[116, 114, 97, 99, 107]⟩ : ByteArray), .string (⟨#[119, 98, 114]⟩ : ByteArray)]) (ok := fun _ => True) (okp := fun _ => True) ?hr ?hp (fun _ hk => hk) trivial (Below.refl _ _) (Nat.le_refl _) (by simp) ?_; (case hd => rfl); (case hg => rfl); (case hr => first | (go_simp; done) | (go_simp; rfl)); (case hp => exact (Reps.one (show Kd.M Kd.string _ _ _ (⟨#[97, 114, 101, 97]⟩ : ByteArray) [.string (⟨#[97, 114, 101, 97]⟩ : ByteArray)] from rfl) (Reps.one (show Kd.M Kd.string _ _ _ (⟨#[98, 97, 115, 101]⟩ : ByteArray) [.string (⟨#[98, 97, 115, 101]⟩ : ByteArray)] from rfl) (Reps.one (show Kd.M Kd.string _ _ _ (⟨#[98, 114]⟩ : ByteArray) [.string (⟨#[98, 114]⟩ : ByteArray)] from rfl) (Reps.one (show Kd.M Kd.string _ _ _ (⟨#[99, 111, 108]⟩ : ByteArray) [.string (⟨#[99, 111, 108]⟩ : ByteArray)] from rfl) (Reps.one (show Kd.M Kd.string _ _ _ (⟨#[101, 109, 98, 101, 100]⟩ : ByteArray) [.string (⟨#[101, 109, 98, 101, 100]⟩ : ByteArray)] from rfl) (Reps.one (show Kd.M Kd.string _ _ _ (⟨#[104, 114]⟩ : ByteArray) [.string (⟨#[104, 114]⟩ : ByteArray)] from rfl) (Reps.one (show Kd.M Kd.string _ _ _ (⟨#[105, 109, 103]⟩ : ByteArray) [.string (⟨#[105, 109, 103]⟩ : ByteArray)] from rfl) (Reps.one (show Kd.M Kd.string _ _ _ (⟨#[105, 110, 112, 117, 116]⟩ : ByteArray) [.string (⟨#[105, 110, 112, 117, 116]⟩ : ByteArray)] from rfl) (Reps.one (show Kd.M Kd.string _ _ _ (⟨#[108, 105, 110, 107]⟩ : ByteArray) [.string (⟨#[108, 105, 110, 107]⟩ : ByteArray)] from rfl) (Reps.one (show Kd.M Kd.string _ _ _ (⟨#[109, 101, 116, 97]⟩ : ByteArray) [.string (⟨#[109, 101, 116, 97]⟩ : ByteArray)] from rfl) (Reps.one (show Kd.M Kd.string _ _ _ (⟨#[112, 97, 114, 97, 109]⟩ : ByteArray) [.string (⟨#[112, 97, 114, 97, 109]⟩ : ByteArray)] from rfl) (Reps.one (show Kd.M Kd.string _ _ _ (⟨#[115, 111, 117, 114, 99, 101]⟩ : ByteArray) [.string (⟨#[115, 111, 117, 114, 99, 101]⟩ : ByteArray)] from rfl) (Reps.one (show Kd.M Kd.string _ _ _ (⟨#[116, 114, 97, 99, 107]⟩ : ByteArray) [.string (⟨#[116, 114, 97, 99, 107]⟩ : ByteArray)] from rfl) (Reps.one (show Kd.M Kd.string _ _ _ (⟨#[119, 98, 114]⟩ : ByteArray) [.string (⟨#[119, 98, 114]⟩ : ByteArray)] from rfl) (Reps.none _ _)))))))))))))))); intro v187 w3 ho4 hb hg_ hnew_; clear hg_ hnew_; (first | rw [← Ny186.out] at ho4 | (simp only [Int.reduceToNat] at ho4; rw [← Ny186.out] at ho4)); have n0_ := Aside0.mk (Kd.R_lower ho4 (below_size y13_)); have n1_ := Aside0.mk (below_step y13_ hb); clear HB; have HO188 := n0_; have HB := n1_; clear n0_ n1_; clear hb ho4; obtain ⟨Ao5, co5, eo5⟩ := Kd.R_slice HO188.out; subst eo5) | ((with_reducible refine gate_callee (f := 42) rfl ?_); refine goesL_ (some 5) rfl rfl Tryd.func42 (by kernel_rfl) rfl #[.string a0, .slice Ao5 y186.length co5] rfl y14_ ?_; (with_reducible refine (names_among.calls k a0 _ _ y186 t189 _ ?side1 ?side2 A2.out).mono ?_); (case side1 => repeat (first | exact (Kd.R_reads' HO188.out).2.2 | (with_reducible refine Kd.C_alloc ?_ _) | (with_reducible refine Kd.C_drewN ?_ _) | (with_reducible refine Kd.C_drew ?_))); (case side2 => exact (Kd.R_reads' HO188.out).2.1); rintro e w' ⟨rfl, ⟨nd, rfl⟩⟩; refine ⟨_, rfl, ?_⟩))
 go_ret
 exact ⟨y11_, y13_⟩
end Go.Proofs.YtpnhjipaeggcpaaDoor.X
end
section
namespace Go.Proofs.YtpnhjipaeggcpaaDoor.X
open Go.RowKit Go.Proofs.YtpnhjipaeggcpaaDoorW.PrintWords Go.Proofs.YtpnhjipaeggcpaaDoorW.PrintLast Go.Proofs.YtpnhjipaeggcpaaDoorW.PrintMore
attribute [local go_sem] max2_int min2_int max_two min_two max_three min_three max_four min_four
def boltingref02_Has.l0 : Nat → List ByteArray → ByteArray → Int → Option (Bool)
 | 0, _, _, _ => none
 | k + 1, x0, x1, x5 => if x5 < (x0.length : Int) then (if 0 ≤ x5 then (if (rdOf ByteArray.empty x0 x5).toList = x1.toList then (some true) else (boltingref02_Has.l0 k x0 x1 (wrap64 (x5 + 1)))) else (none)) else (some false)
def boltingref02_Has.f (k : Nat) (l0 : List ByteArray) (a1 : ByteArray) : Option (Bool) := boltingref02_Has.l0 k l0 a1 0
set_option maxHeartbeats 8000000 in
set_option maxRecDepth 100000 in
theorem boltingref02_Has.calls (k : Nat) (A0 : Option Addr) (c0 : Nat) (l0 : List ByteArray) (a1 : ByteArray) (r : Bool) (w : World) (hr0 : Kd.C Kd.string w A0 l0.length l0) (hc0 : l0.length ≤ c0) (h : boltingref02_Has.f k l0 a1 = some r) :
  Calls Tryd.prog 21 #[.slice A0 l0.length c0, .string a1] w fun e w' => e = .returned (.bool r) ∧ Drawn0 w w' := by
 have HR0 := Aside0.mk hr0
 have HC0 := Aside0.mk hc0
 clear hr0 hc0
 have H : (boltingref02_Has.l0 k l0 a1 0) = some r := h
 clear h
 have H' := Aside0.mk H
 clear H
 go_enter Tryd.func21, Tryd.ntmps21
 go_wp2
 go_loopg [5] k (fun kq v5 w' => ∃ (x5_1 : Int), v5 = .int .i64 x5_1 ∧ Aside0 (boltingref02_Has.l0 kq l0 a1 x5_1 = some r) ∧ Aside0 (kq ≤ k) ∧ Drawn0 w w')
 case atStart => exact ⟨(0), y4_, H', ⟨Nat.le_refl _⟩, y3_⟩
 case round =>
  clear H'
  try clear c2
  try clear p2
  obtain ⟨x5_1, rfl, HA, HK1, ⟨m1, rfl⟩⟩ := hrel
  cases gk with
  | zero => exact absurd HA.out (by simp [boltingref02_Has.l0])
  | succ k1 =>
   have H := HA.out
   clear HA
   simp only [boltingref02_Has.l0] at H
   by_cases c3 : x5_1 < (l0.length : Int)
   ·rw [if_pos c3] at H
    have c3b0 : decide (x5_1 < (l0.length : Int)) = true := decide_eq_true c3
    clear c3
    by_cases c4 : 0 ≤ x5_1
    rotate_left
    ·rw [if_neg c4] at H
     exact absurd H (by simp)
    rw [if_pos c4] at H
    have c4b0 : decide (0 ≤ x5_1) = true := decide_eq_true c4
    clear c4
    by_cases c5 : (rdOf ByteArray.empty l0 x5_1).toList = a1.toList
    ·rw [if_pos c5] at H
     have c5b0 : ((rdOf ByteArray.empty l0 x5_1).toList == a1.toList) = true := beq_iff_eq.mpr c5
     have c5b1 : ((rdOf ByteArray.empty l0 x5_1).toList != a1.toList) = false := bne_eq_false_iff_eq.mpr c5
     clear c5
     obtain rfl := Option.some.inj H
     have p124 : 0 ≤ (x5_1 : Int) := of_decide_eq_true y2_
     have q124 : x5_1 < (l0.length : Int) := of_decide_eq_true y2_
     obtain ⟨ad124, e124, hx124_0⟩ := Kd.at_string HR0.out x5_1 p124 q124
     cases e124
     replace p124 := eq_true p124
     replace q124 := eq_true q124
     go_wp2
     go_ret
     exact ⟨y4_, y3_⟩
    ·rw [if_neg c5] at H
     have c5b0 : ((rdOf ByteArray.empty l0 x5_1).toList == a1.toList) = false := beq_eq_false_iff_ne.mpr c5
     have c5b1 : ((rdOf ByteArray.empty l0 x5_1).toList != a1.toList) = true := bne_iff_ne.mpr c5
     have H' := Aside0.mk H
     clear H
     have p124 : 0 ≤ (x5_1 : Int) := of_decide_eq_true y2_
     have q124 : x5_1 < (l0.length : Int) := of_decide_eq_true y2_
     obtain ⟨ad124, e124, hx124_0⟩ := Kd.at_string HR0.out x5_1 p124 q124
     cases e124
     replace p124 := eq_true p124
     replace q124 := eq_true q124
     go_wp2
     go_roundg k1
     case measure => have := HK1.out; omega
     case rel => exact ⟨(wrap64 (x5_1 + 1)), y4_, H', ⟨by have := HK1.out; omega⟩, y3_⟩
   ·rw [if_neg c3] at H
    have c3b0 : decide (x5_1 < (l0.length : Int)) = false := decide_eq_false c3
    clear c3
    obtain rfl := Option.some.inj H
    go_wp2
    go_ret
    exact ⟨y4_, y3_⟩
end Go.Proofs.YtpnhjipaeggcpaaDoor.X
end
section
namespace Go.Proofs.YtpnhjipaeggcpaaDoor.X
open Go.RowKit Go.Proofs.YtpnhjipaeggcpaaDoorW.PrintWords Go.Proofs.YtpnhjipaeggcpaaDoorW.PrintLast Go.Proofs.YtpnhjipaeggcpaaDoorW.PrintMore
attribute [local go_sem] max2_int min2_int max_two min_two max_three min_three max_four min_four
def boltingref03_Write.l0 : Nat → ByteArray → Bool → List Int → Int → Option (ByteArray)
 | 0, _, _, _, _ => none
 | k + 1, x0, x1, x5, x6 => if x6 < (x0.size : Int) then (if 0 ≤ x6 then (if x6 ≤ (wrap64 (x6 + 1)) then (if (wrap64 (x6 + 1)) ≤ (x0.size : Int) then (if (bt x0 x6) = 38 then (if x5.length + 5 < 140737488355328 then (boltingref03_Write.l0 k x0 x1 (x5 ++ bytesOf (⟨#[38, 97, 109, 112, 59]⟩ : ByteArray)) (wrap64 (x6 + 1))) else (none)) else (if (bt x0 x6) = 60 then (if x5.length + 4 < 140737488355328 then (boltingref03_Write.l0 k x0 x1 (x5 ++ bytesOf (⟨#[38, 108, 116, 59]⟩ : ByteArray)) (wrap64 (x6 + 1))) else (none)) else (if (bt x0 x6) = 62 then (if x5.length + 4 < 140737488355328 then (boltingref03_Write.l0 k x0 x1 (x5 ++ bytesOf (⟨#[38, 103, 116, 59]⟩ : ByteArray)) (wrap64 (x6 + 1))) else (none)) else (if (bt x0 x6) = 34 then (if x1 = true then (if x5.length + 6 < 140737488355328 then (boltingref03_Write.l0 k x0 x1 (x5 ++ bytesOf (⟨#[38, 113, 117, 111, 116, 59]⟩ : ByteArray)) (wrap64 (x6 + 1))) else (none)) else (if x5.length + (x0.extract (x6 : Int).toNat ((wrap64 (x6 + 1)) : Int).toNat).size < 140737488355328 then (boltingref03_Write.l0 k x0 x1 (x5 ++ bytesOf (x0.extract (x6 : Int).toNat ((wrap64 (x6 + 1)) : Int).toNat)) (wrap64 (x6 + 1))) else (none))) else (if (bt x0 x6) = 194 then (if (wrap64 (x6 + 1)) < (x0.size : Int) then (if 0 ≤ (wrap64 (x6 + 1)) then (if (bt x0 (wrap64 (x6 + 1))) = 160 then (if x5.length + 6 < 140737488355328 then (boltingref03_Write.l0 k x0 x1 (x5 ++ bytesOf (⟨#[38, 110, 98, 115, 112, 59]⟩ : ByteArray)) (wrap64 ((wrap64 (x6 + 1)) + 1))) else (none)) else (if x5.length + (x0.extract (x6 : Int).toNat ((wrap64 (x6 + 1)) : Int).toNat).size < 140737488355328 then (boltingref03_Write.l0 k x0 x1 (x5 ++ bytesOf (x0.extract (x6 : Int).toNat ((wrap64 (x6 + 1)) : Int).toNat)) (wrap64 (x6 + 1))) else (none))) else (none)) else (if x5.length + (x0.extract (x6 : Int).toNat ((wrap64 (x6 + 1)) : Int).toNat).size < 140737488355328 then (boltingref03_Write.l0 k x0 x1 (x5 ++ bytesOf (x0.extract (x6 : Int).toNat ((wrap64 (x6 + 1)) : Int).toNat)) (wrap64 (x6 + 1))) else (none))) else (if x5.length + (x0.extract (x6 : Int).toNat ((wrap64 (x6 + 1)) : Int).toNat).size < 140737488355328 then (boltingref03_Write.l0 k x0 x1 (x5 ++ bytesOf (x0.extract (x6 : Int).toNat ((wrap64 (x6 + 1)) : Int).toNat)) (wrap64 (x6 + 1))) else (none))))))) else (none)) else (none)) else (none)) else (some (strOfNums x5))
def boltingref03_Write.f (k : Nat) (a0 : ByteArray) (a1 : Bool) : Option (ByteArray) := boltingref03_Write.l0 k a0 a1 (([] : List Int)) 0
set_option maxHeartbeats 8000000 in
set_option maxRecDepth 100000 in
theorem boltingref03_Write.calls (k : Nat) (a0 : ByteArray) (a1 : Bool) (r : ByteArray) (w : World) (h : boltingref03_Write.f k a0 a1 = some r) :
  Calls Tryd.prog 23 #[.string a0, .bool a1] w fun e w' => e = .returned (.string r) ∧ Below w.heap.size w w' := by
 have HB := Aside0.mk (Below.refl w.heap.size w)
 have H : (boltingref03_Write.l0 k a0 a1 (([] : List Int)) 0) = some r := h
 clear h
 obtain ⟨y128, hy128⟩ : ∃ y_ : List Int, y_ = (([] : List Int)) := ⟨_, rfl⟩
 replace H : (boltingref03_Write.l0 k a0 a1 y128 0) = some r := by first | (rw [hy128]; with_reducible exact H) | (have H2_ := (Option.bind_some _ _).symm.trans H; rw [hy128]; with_reducible exact H2_) | (have H2_ := (Option.bind_some _ _).symm.trans H; with_reducible exact H2_) | with_reducible exact H | (rw [hy128]; exact H) | exact H
 have Ny128 := Aside0.mk hy128
 clear hy128
 have H' := Aside0.mk H
 clear H
 go_enter Tryd.func23, Tryd.ntmps23
 go_wp2_with (first | ((with_reducible refine gate_dst (N := 8) rfl ?_); refine Kd.R_lit (Kd.int .u8) _ 5 ?hg (N := 8) ?hd (xs := ([] : List Int)) (inner := []) (ok := fun _ => True) (okp := fun _ => True) ?hr ?hp (fun _ hk => hk) trivial (Below.refl _ _) (Nat.le_refl _) (by simp) ?_; (case hd => rfl); (case hg => rfl); (case hr => first | (go_simp; done) | (go_simp; rfl)); (case hp => exact (Reps.none _ _)); intro v129 w3 ho4 hb hg_ hnew_; clear hg_ hnew_; (first | rw [← Ny128.out] at ho4 | (simp only [Int.reduceToNat] at ho4; rw [← Ny128.out] at ho4)); have n0_ := Aside0.mk (Kd.R_lower ho4 (below_size y13_)); have n1_ := Aside0.mk (below_step y13_ hb); clear HB; have HO130 := n0_; have HB := n1_; clear n0_ n1_; clear hb ho4))
 go_loopg [5, 6] k (fun kq v5 v6 w' => ∃ (x5_1 : List Int) (x6_1 : Int), v6 = .int .i64 x6_1 ∧ Aside0 (boltingref03_Write.l0 kq a0 a1 x5_1 x6_1 = some r) ∧ Aside0 (kq ≤ k) ∧ Aside0 (Kd.R (Kd.int .u8) 5 w' w.heap.size (fun _ => True) v5 x5_1) ∧ Aside0 (Below w.heap.size w w'))
 case atStart => exact ⟨(y128), (0), y4_, H', ⟨Nat.le_refl _⟩, ⟨by (with_reducible repeat (first | apply Kd.R_alloc | apply Kd.R_drewN | apply Kd.R_drew)); exact HO130.out⟩, ⟨y13_⟩⟩
 case round =>
  clear H'
  try clear c2
  try clear p2
  obtain ⟨x5_1, x6_1, rfl, HA, HK1, HO_5, HB⟩ := hrel
  cases gk with
  | zero => exact absurd HA.out (by simp [boltingref03_Write.l0])
  | succ k1 =>
   have H := HA.out
   clear HA
   simp only [boltingref03_Write.l0] at H
   by_cases c5 : x6_1 < (a0.size : Int)
   ·rw [if_pos c5] at H
    have c5b0 : decide (x6_1 < (a0.size : Int)) = true := decide_eq_true c5
    clear c5
    by_cases c6 : 0 ≤ x6_1
    rotate_left
    ·rw [if_neg c6] at H
     exact absurd H (by simp)
    rw [if_pos c6] at H
    have c6b0 := eq_true c6
    have c6b1 : decide (0 ≤ x6_1) = true := decide_eq_true c6
    clear c6
    by_cases c7 : x6_1 ≤ (wrap64 (x6_1 + 1))
    rotate_left
    ·rw [if_neg c7] at H
     exact absurd H (by simp)
    rw [if_pos c7] at H
    have c7b0 := eq_true c7
    have c7b1 : decide (x6_1 ≤ (wrap64 (x6_1 + 1))) = true := decide_eq_true c7
    by_cases c8 : (wrap64 (x6_1 + 1)) ≤ (a0.size : Int)
    rotate_left
    ·rw [if_neg c8] at H
     exact absurd H (by simp)
    rw [if_pos c8] at H
    have c8b0 := eq_true c8
    have c8b1 : decide ((wrap64 (x6_1 + 1)) ≤ (a0.size : Int)) = true := decide_eq_true c8
    by_cases c10 : (bt a0 x6_1) = 38
    ·rw [if_pos c10] at H
     have c10b0 : ((bt a0 x6_1) == 38) = true := beq_iff_eq.mpr c10
     have c10b1 : ((bt a0 x6_1) != 38) = false := bne_eq_false_iff_eq.mpr c10
     clear c10
     by_cases c11 : x5_1.length + 5 < 140737488355328
     rotate_left
     ·rw [if_neg c11] at H
      exact absurd H (by simp)
     rw [if_pos c11] at H
     have LMc11 := Aside0.mk c11
     clear c11
     obtain ⟨y131, hy131⟩ : ∃ y_ : List Int, y_ = (x5_1 ++ bytesOf (⟨#[38, 97, 109, 112, 59]⟩ : ByteArray)) := ⟨_, rfl⟩
     replace H : (boltingref03_Write.l0 k1 a0 a1 y131 (wrap64 (x6_1 + 1))) = some r := by first | (rw [hy131]; with_reducible exact H) | (have H2_ := (Option.bind_some _ _).symm.trans H; rw [hy131]; with_reducible exact H2_) | (have H2_ := (Option.bind_some _ _).symm.trans H; with_reducible exact H2_) | with_reducible exact H | (rw [hy131]; exact H) | exact H
     have Ny131 := Aside0.mk hy131
     clear hy131
     have H' := Aside0.mk H
     clear H
     have p9 : 0 ≤ (x6_1 : Int) := of_decide_eq_true y2_
     have q9 : x6_1 < (a0.size : Int) := of_decide_eq_true y2_
     have hx9 := bt_at a0 x6_1
     replace p9 := eq_true p9
     replace q9 := eq_true q9
     go_wp2_with (first | (at_builtin; refine print_append_str (w0 := w) w.heap.size rfl (.tmp 48) _ 52 9 5 rfl Tryd.underlying52 Tryd.underlying9 info5 u5 x5_1 (⟨#[38, 97, 109, 112, 59]⟩ : ByteArray) rfl rfl ?aO ?aB ?aS ?aL ?_; (case aB => exact y13_); (case aO => exact (Kd.own_of_R (y7_ HO_5.out))); (case aS => exact (below_size y13_)); (case aL => have := LMc11.out; first | omega | exact Nat.le_of_lt this); intro v132 w12 ho0 hb hg; have ho := Kd.R_of_own (h1 := fun _ => rfl) (ok := fun _ => True) ho0 (fun _ _ => trivial); clear ho0; have hat := True.intro; rw [← Ny131.out] at ho; change Kd.R (Kd.int .u8) 5 w12 w.heap.size (fun _ => True) v132 y131 at ho; have n0_ := Aside0.mk (hb); have n1_ := Aside0.mk (ho); clear HB; clear HO_5; have HB := n0_; have HO133 := n1_; clear n0_ n1_; clear ho hb hg hat))
     go_roundg k1
     case measure => have := HK1.out; omega
     case rel => exact ⟨(y131), (wrap64 (x6_1 + 1)), y4_, H', ⟨by have := HK1.out; omega⟩, ⟨by (with_reducible repeat (first | apply Kd.R_alloc | apply Kd.R_drewN | apply Kd.R_drew)); exact HO133.out⟩, ⟨y13_⟩⟩
    ·rw [if_neg c10] at H
     have c10b0 : ((bt a0 x6_1) == 38) = false := beq_eq_false_iff_ne.mpr c10
     have c10b1 : ((bt a0 x6_1) != 38) = true := bne_iff_ne.mpr c10
     by_cases c13 : (bt a0 x6_1) = 60
     ·rw [if_pos c13] at H
      have c13b0 : ((bt a0 x6_1) == 60) = true := beq_iff_eq.mpr c13
      have c13b1 : ((bt a0 x6_1) != 60) = false := bne_eq_false_iff_eq.mpr c13
      clear c13
      by_cases c14 : x5_1.length + 4 < 140737488355328
      rotate_left
      ·rw [if_neg c14] at H
       exact absurd H (by simp)
      rw [if_pos c14] at H
      have LMc14 := Aside0.mk c14
      clear c14
      obtain ⟨y134, hy134⟩ : ∃ y_ : List Int, y_ = (x5_1 ++ bytesOf (⟨#[38, 108, 116, 59]⟩ : ByteArray)) := ⟨_, rfl⟩
      replace H : (boltingref03_Write.l0 k1 a0 a1 y134 (wrap64 (x6_1 + 1))) = some r := by first | (rw [hy134]; with_reducible exact H) | (have H2_ := (Option.bind_some _ _).symm.trans H; rw [hy134]; with_reducible exact H2_) | (have H2_ := (Option.bind_some _ _).symm.trans H; with_reducible exact H2_) | with_reducible exact H | (rw [hy134]; exact H) | exact H
      have Ny134 := Aside0.mk hy134
      clear hy134
      have H' := Aside0.mk H
      clear H
      have p9 : 0 ≤ (x6_1 : Int) := of_decide_eq_true y2_
      have q9 : x6_1 < (a0.size : Int) := of_decide_eq_true y2_
      have hx9 := bt_at a0 x6_1
      replace p9 := eq_true p9
      replace q9 := eq_true q9
      go_wp2_with (first | (at_builtin; refine print_append_str (w0 := w) w.heap.size rfl (.tmp 48) _ 52 9 5 rfl Tryd.underlying52 Tryd.underlying9 info5 u5 x5_1 (⟨#[38, 108, 116, 59]⟩ : ByteArray) rfl rfl ?aO ?aB ?aS ?aL ?_; (case aB => exact y13_); (case aO => exact (Kd.own_of_R (y7_ HO_5.out))); (case aS => exact (below_size y13_)); (case aL => have := LMc14.out; first | omega | exact Nat.le_of_lt this); intro v135 w15 ho0 hb hg; have ho := Kd.R_of_own (h1 := fun _ => rfl) (ok := fun _ => True) ho0 (fun _ _ => trivial); clear ho0; have hat := True.intro; rw [← Ny134.out] at ho; change Kd.R (Kd.int .u8) 5 w15 w.heap.size (fun _ => True) v135 y134 at ho; have n0_ := Aside0.mk (hb); have n1_ := Aside0.mk (ho); clear HB; clear HO_5; have HB := n0_; have HO136 := n1_; clear n0_ n1_; clear ho hb hg hat))
      go_roundg k1
      case measure => have := HK1.out; omega
      case rel => exact ⟨(y134), (wrap64 (x6_1 + 1)), y4_, H', ⟨by have := HK1.out; omega⟩, ⟨by (with_reducible repeat (first | apply Kd.R_alloc | apply Kd.R_drewN | apply Kd.R_drew)); exact HO136.out⟩, ⟨y13_⟩⟩
     ·rw [if_neg c13] at H
      have c13b0 : ((bt a0 x6_1) == 60) = false := beq_eq_false_iff_ne.mpr c13
      have c13b1 : ((bt a0 x6_1) != 60) = true := bne_iff_ne.mpr c13
      by_cases c16 : (bt a0 x6_1) = 62
      ·rw [if_pos c16] at H
       have c16b0 : ((bt a0 x6_1) == 62) = true := beq_iff_eq.mpr c16
       have c16b1 : ((bt a0 x6_1) != 62) = false := bne_eq_false_iff_eq.mpr c16
       clear c16
       by_cases c17 : x5_1.length + 4 < 140737488355328
       rotate_left
       ·rw [if_neg c17] at H
        exact absurd H (by simp)
       rw [if_pos c17] at H
       have LMc17 := Aside0.mk c17
       clear c17
       obtain ⟨y137, hy137⟩ : ∃ y_ : List Int, y_ = (x5_1 ++ bytesOf (⟨#[38, 103, 116, 59]⟩ : ByteArray)) := ⟨_, rfl⟩
       replace H : (boltingref03_Write.l0 k1 a0 a1 y137 (wrap64 (x6_1 + 1))) = some r := by first | (rw [hy137]; with_reducible exact H) | (have H2_ := (Option.bind_some _ _).symm.trans H; rw [hy137]; with_reducible exact H2_) | (have H2_ := (Option.bind_some _ _).symm.trans H; with_reducible exact H2_) | with_reducible exact H | (rw [hy137]; exact H) | exact H
       have Ny137 := Aside0.mk hy137
       clear hy137
       have H' := Aside0.mk H
       clear H
       have p9 : 0 ≤ (x6_1 : Int) := of_decide_eq_true y2_
       have q9 : x6_1 < (a0.size : Int) := of_decide_eq_true y2_
       have hx9 := bt_at a0 x6_1
       replace p9 := eq_true p9
       replace q9 := eq_true q9
       go_wp2_with (first | (at_builtin; refine print_append_str (w0 := w) w.heap.size rfl (.tmp 48) _ 52 9 5 rfl Tryd.underlying52 Tryd.underlying9 info5 u5 x5_1 (⟨#[38, 103, 116, 59]⟩ : ByteArray) rfl rfl ?aO ?aB ?aS ?aL ?_; (case aB => exact y13_); (case aO => exact (Kd.own_of_R (y7_ HO_5.out))); (case aS => exact (below_size y13_)); (case aL => have := LMc17.out; first | omega | exact Nat.le_of_lt this); intro v138 w18 ho0 hb hg; have ho := Kd.R_of_own (h1 := fun _ => rfl) (ok := fun _ => True) ho0 (fun _ _ => trivial); clear ho0; have hat := True.intro; rw [← Ny137.out] at ho; change Kd.R (Kd.int .u8) 5 w18 w.heap.size (fun _ => True) v138 y137 at ho; have n0_ := Aside0.mk (hb); have n1_ := Aside0.mk (ho); clear HB; clear HO_5; have HB := n0_; have HO139 := n1_; clear n0_ n1_; clear ho hb hg hat))
       go_roundg k1
       case measure => have := HK1.out; omega
       case rel => exact ⟨(y137), (wrap64 (x6_1 + 1)), y4_, H', ⟨by have := HK1.out; omega⟩, ⟨by (with_reducible repeat (first | apply Kd.R_alloc | apply Kd.R_drewN | apply Kd.R_drew)); exact HO139.out⟩, ⟨y13_⟩⟩
      ·rw [if_neg c16] at H
       have c16b0 : ((bt a0 x6_1) == 62) = false := beq_eq_false_iff_ne.mpr c16
       have c16b1 : ((bt a0 x6_1) != 62) = true := bne_iff_ne.mpr c16
       by_cases c19 : (bt a0 x6_1) = 34
       ·rw [if_pos c19] at H
        have c19b0 : ((bt a0 x6_1) == 34) = true := beq_iff_eq.mpr c19
        have c19b1 : ((bt a0 x6_1) != 34) = false := bne_eq_false_iff_eq.mpr c19
        clear c19
        by_cases c20 : a1 = true
        ·subst c20
         rw [if_pos rfl] at H
         by_cases c21 : x5_1.length + 6 < 140737488355328
         rotate_left
         ·rw [if_neg c21] at H
          exact absurd H (by simp)
         rw [if_pos c21] at H
         have LMc21 := Aside0.mk c21
         clear c21
         obtain ⟨y140, hy140⟩ : ∃ y_ : List Int, y_ = (x5_1 ++ bytesOf (⟨#[38, 113, 117, 111, 116, 59]⟩ : ByteArray)) := ⟨_, rfl⟩
         replace H : (boltingref03_Write.l0 k1 a0 true y140 (wrap64 (x6_1 + 1))) = some r := by first | (rw [hy140]; with_reducible exact H) | (have H2_ := (Option.bind_some _ _).symm.trans H; rw [hy140]; with_reducible exact H2_) | (have H2_ := (Option.bind_some _ _).symm.trans H; with_reducible exact H2_) | with_reducible exact H | (rw [hy140]; exact H) | exact H
         have Ny140 := Aside0.mk hy140
         clear hy140
         have H' := Aside0.mk H
         clear H
         have p9 : 0 ≤ (x6_1 : Int) := of_decide_eq_true y2_
         have q9 : x6_1 < (a0.size : Int) := of_decide_eq_true y2_
         have hx9 := bt_at a0 x6_1
         replace p9 := eq_true p9
         replace q9 := eq_true q9
         go_wp2_with (first | (at_builtin; refine print_append_str (w0 := w) w.heap.size rfl (.tmp 48) _ 52 9 5 rfl Tryd.underlying52 Tryd.underlying9 info5 u5 x5_1 (⟨#[38, 113, 117, 111, 116, 59]⟩ : ByteArray) rfl rfl ?aO ?aB ?aS ?aL ?_; (case aB => exact y13_); (case aO => exact (Kd.own_of_R (y7_ HO_5.out))); (case aS => exact (below_size y13_)); (case aL => have := LMc21.out; first | omega | exact Nat.le_of_lt this); intro v141 w22 ho0 hb hg; have ho := Kd.R_of_own (h1 := fun _ => rfl) (ok := fun _ => True) ho0 (fun _ _ => trivial); clear ho0; have hat := True.intro; rw [← Ny140.out] at ho; change Kd.R (Kd.int .u8) 5 w22 w.heap.size (fun _ => True) v141 y140 at ho; have n0_ := Aside0.mk (hb); have n1_ := Aside0.mk (ho); clear HB; clear HO_5; have HB := n0_; have HO142 := n1_; clear n0_ n1_; clear ho hb hg hat))
         go_roundg k1
         case measure => have := HK1.out; omega
         case rel => exact ⟨(y140), (wrap64 (x6_1 + 1)), y4_, H', ⟨by have := HK1.out; omega⟩, ⟨by (with_reducible repeat (first | apply Kd.R_alloc | apply Kd.R_drewN | apply Kd.R_drew)); exact HO142.out⟩, ⟨y13_⟩⟩
        ·replace c20 := Bool.eq_false_iff.mpr c20
         subst c20
         rw [if_neg (show ¬ (false = true) by decide)] at H
         by_cases c23 : x5_1.length + (a0.extract (x6_1 : Int).toNat ((wrap64 (x6_1 + 1)) : Int).toNat).size < 140737488355328
         rotate_left
         ·rw [if_neg c23] at H
          exact absurd H (by simp)
         rw [if_pos c23] at H
         have LMc23 := Aside0.mk c23
         clear c23
         obtain ⟨y143, hy143⟩ : ∃ y_ : List Int, y_ = (x5_1 ++ bytesOf (a0.extract (x6_1 : Int).toNat ((wrap64 (x6_1 + 1)) : Int).toNat)) := ⟨_, rfl⟩
         replace H : (boltingref03_Write.l0 k1 a0 false y143 (wrap64 (x6_1 + 1))) = some r := by first | (rw [hy143]; with_reducible exact H) | (have H2_ := (Option.bind_some _ _).symm.trans H; rw [hy143]; with_reducible exact H2_) | (have H2_ := (Option.bind_some _ _).symm.trans H; with_reducible exact H2_) | with_reducible exact H | (rw [hy143]; exact H) | exact H
         have Ny143 := Aside0.mk hy143
         clear hy143
         have H' := Aside0.mk H
         clear H
         have p9 : 0 ≤ (x6_1 : Int) := of_decide_eq_true y2_
         have q9 : x6_1 < (a0.size : Int) := of_decide_eq_true y2_
         have hx9 := bt_at a0 x6_1
         replace p9 := eq_true p9
         replace q9 := eq_true q9
         go_wp2_with (first | (at_builtin; refine print_append_str (w0 := w) w.heap.size rfl (.tmp 48) _ 52 9 5 rfl Tryd.underlying52 Tryd.underlying9 info5 u5 x5_1 (a0.extract (x6_1 : Int).toNat ((wrap64 (x6_1 + 1)) : Int).toNat) rfl rfl ?aO ?aB ?aS ?aL ?_; (case aB => exact y13_); (case aO => exact (Kd.own_of_R (y7_ HO_5.out))); (case aS => exact (below_size y13_)); (case aL => have := LMc23.out; first | omega | exact Nat.le_of_lt this); intro v144 w24 ho0 hb hg; have ho := Kd.R_of_own (h1 := fun _ => rfl) (ok := fun _ => True) ho0 (fun _ _ => trivial); clear ho0; have hat := True.intro; rw [← Ny143.out] at ho; change Kd.R (Kd.int .u8) 5 w24 w.heap.size (fun _ => True) v144 y143 at ho; have n0_ := Aside0.mk (hb); have n1_ := Aside0.mk (ho); clear HB; clear HO_5; have HB := n0_; have HO145 := n1_; clear n0_ n1_; clear ho hb hg hat))
         go_roundg k1
         case measure => have := HK1.out; omega
         case rel => exact ⟨(y143), (wrap64 (x6_1 + 1)), y4_, H', ⟨by have := HK1.out; omega⟩, ⟨by (with_reducible repeat (first | apply Kd.R_alloc | apply Kd.R_drewN | apply Kd.R_drew)); exact HO145.out⟩, ⟨y13_⟩⟩
       ·rw [if_neg c19] at H
        have c19b0 : ((bt a0 x6_1) == 34) = false := beq_eq_false_iff_ne.mpr c19
        have c19b1 : ((bt a0 x6_1) != 34) = true := bne_iff_ne.mpr c19
        by_cases c25 : (bt a0 x6_1) = 194
        ·rw [if_pos c25] at H
         have c25b0 : ((bt a0 x6_1) == 194) = true := beq_iff_eq.mpr c25
         have c25b1 : ((bt a0 x6_1) != 194) = false := bne_eq_false_iff_eq.mpr c25
         clear c25
         by_cases c26 : (wrap64 (x6_1 + 1)) < (a0.size : Int)
         ·rw [if_pos c26] at H
          have c26b0 : decide ((wrap64 (x6_1 + 1)) < (a0.size : Int)) = true := decide_eq_true c26
          clear c26
          obtain ⟨ji27, hji27⟩ : ∃ j_ : Int, (wrap64 (x6_1 + 1)) = j_ := ⟨_, rfl⟩
          replace H : (if 0 ≤ (ji27) then (if (bt a0 (ji27)) = 160 then (if x5_1.length + 6 < 140737488355328 then (boltingref03_Write.l0 k1 a0 a1 (x5_1 ++ bytesOf (⟨#[38, 110, 98, 115, 112, 59]⟩ : ByteArray)) (wrap64 ((ji27) + 1))) else (none)) else (if x5_1.length + (a0.extract (x6_1 : Int).toNat ((ji27) : Int).toNat).size < 140737488355328 then (boltingref03_Write.l0 k1 a0 a1 (x5_1 ++ bytesOf (a0.extract (x6_1 : Int).toNat ((ji27) : Int).toNat)) ji27) else (none))) else (none)) = some r := by first | (rw [hji27] at H; exact H) | (simp only [hji27] at H ⊢; exact H)
          (try rw [hji27] at c7b0)
          (try rw [hji27] at c7b1)
          (try rw [hji27] at c7)
          (try rw [hji27] at c8b0)
          (try rw [hji27] at c8b1)
          (try rw [hji27] at c8)
          (try rw [hji27] at c26b0)
          have hji27w : (IntKind.i64.wrap (x6_1 + 1)) = ji27 := (i64_w _).trans hji27
          by_cases c28 : 0 ≤ (ji27)
          rotate_left
          ·rw [if_neg c28] at H
           exact absurd H (by simp)
          rw [if_pos c28] at H
          have c28b0 : decide (0 ≤ (ji27)) = true := decide_eq_true c28
          clear c28
          by_cases c30 : (bt a0 (ji27)) = 160
          ·rw [if_pos c30] at H
           have c30b0 : ((bt a0 (ji27)) == 160) = true := beq_iff_eq.mpr c30
           have c30b1 : ((bt a0 (ji27)) != 160) = false := bne_eq_false_iff_eq.mpr c30
           clear c30
           by_cases c31 : x5_1.length + 6 < 140737488355328
           rotate_left
           ·rw [if_neg c31] at H
            exact absurd H (by simp)
           rw [if_pos c31] at H
           have LMc31 := Aside0.mk c31
           clear c31
           obtain ⟨y146, hy146⟩ : ∃ y_ : List Int, y_ = (x5_1 ++ bytesOf (⟨#[38, 110, 98, 115, 112, 59]⟩ : ByteArray)) := ⟨_, rfl⟩
           replace H : (boltingref03_Write.l0 k1 a0 a1 y146 (wrap64 ((ji27) + 1))) = some r := by first | (rw [hy146]; with_reducible exact H) | (have H2_ := (Option.bind_some _ _).symm.trans H; rw [hy146]; with_reducible exact H2_) | (have H2_ := (Option.bind_some _ _).symm.trans H; with_reducible exact H2_) | with_reducible exact H | (rw [hy146]; exact H) | exact H
           have Ny146 := Aside0.mk hy146
           clear hy146
           have H' := Aside0.mk H
           clear H
           have p9 : 0 ≤ (x6_1 : Int) := of_decide_eq_true y2_
           have q9 : x6_1 < (a0.size : Int) := of_decide_eq_true y2_
           have hx9 := bt_at a0 x6_1
           replace p9 := eq_true p9
           replace q9 := eq_true q9
           have p29 : 0 ≤ ((ji27) : Int) := of_decide_eq_true y2_
           have q29 : (ji27) < (a0.size : Int) := of_decide_eq_true y2_
           have hx29 := bt_at a0 (ji27)
           replace p29 := eq_true p29
           replace q29 := eq_true q29
           go_wp2_with (first | (at_builtin; refine print_append_str (w0 := w) w.heap.size rfl (.tmp 48) _ 52 9 5 rfl Tryd.underlying52 Tryd.underlying9 info5 u5 x5_1 (⟨#[38, 110, 98, 115, 112, 59]⟩ : ByteArray) rfl rfl ?aO ?aB ?aS ?aL ?_; (case aB => exact y13_); (case aO => exact (Kd.own_of_R (y7_ HO_5.out))); (case aS => exact (below_size y13_)); (case aL => have := LMc31.out; first | omega | exact Nat.le_of_lt this); intro v147 w32 ho0 hb hg; have ho := Kd.R_of_own (h1 := fun _ => rfl) (ok := fun _ => True) ho0 (fun _ _ => trivial); clear ho0; have hat := True.intro; rw [← Ny146.out] at ho; change Kd.R (Kd.int .u8) 5 w32 w.heap.size (fun _ => True) v147 y146 at ho; have n0_ := Aside0.mk (hb); have n1_ := Aside0.mk (ho); clear HB; clear HO_5; have HB := n0_; have HO148 := n1_; clear n0_ n1_; clear ho hb hg hat))
           go_roundg k1
           case measure => have := HK1.out; omega
           case rel => exact ⟨(y146), (wrap64 ((ji27) + 1)), y12_, H', ⟨by have := HK1.out; omega⟩, ⟨by (with_reducible repeat (first | apply Kd.R_alloc | apply Kd.R_drewN | apply Kd.R_drew)); exact HO148.out⟩, ⟨y13_⟩⟩
          ·rw [if_neg c30] at H
           have c30b0 : ((bt a0 (ji27)) == 160) = false := beq_eq_false_iff_ne.mpr c30
           have c30b1 : ((bt a0 (ji27)) != 160) = true := bne_iff_ne.mpr c30
           by_cases c33 : x5_1.length + (a0.extract (x6_1 : Int).toNat ((ji27) : Int).toNat).size < 140737488355328
           rotate_left
           ·rw [if_neg c33] at H
            exact absurd H (by simp)
           rw [if_pos c33] at H
           have LMc33 := Aside0.mk c33
           clear c33
           obtain ⟨y149, hy149⟩ : ∃ y_ : List Int, y_ = (x5_1 ++ bytesOf (a0.extract (x6_1 : Int).toNat ((ji27) : Int).toNat)) := ⟨_, rfl⟩
           replace H : (boltingref03_Write.l0 k1 a0 a1 y149 ji27) = some r := by first | (rw [hy149]; with_reducible exact H) | (have H2_ := (Option.bind_some _ _).symm.trans H; rw [hy149]; with_reducible exact H2_) | (have H2_ := (Option.bind_some _ _).symm.trans H; with_reducible exact H2_) | with_reducible exact H | (rw [hy149]; exact H) | exact H
           have Ny149 := Aside0.mk hy149
           clear hy149
           have H' := Aside0.mk H
           clear H
           have p9 : 0 ≤ (x6_1 : Int) := of_decide_eq_true y2_
           have q9 : x6_1 < (a0.size : Int) := of_decide_eq_true y2_
           have hx9 := bt_at a0 x6_1
           replace p9 := eq_true p9
           replace q9 := eq_true q9
           have p29 : 0 ≤ ((ji27) : Int) := of_decide_eq_true y2_
           have q29 : (ji27) < (a0.size : Int) := of_decide_eq_true y2_
           have hx29 := bt_at a0 (ji27)
           replace p29 := eq_true p29
           replace q29 := eq_true q29
           go_wp2_with (first | (at_builtin; refine print_append_str (w0 := w) w.heap.size rfl (.tmp 48) _ 52 9 5 rfl Tryd.underlying52 Tryd.underlying9 info5 u5 x5_1 (a0.extract (x6_1 : Int).toNat ((ji27) : Int).toNat) rfl rfl ?aO ?aB ?aS ?aL ?_; (case aB => exact y13_); (case aO => exact (Kd.own_of_R (y7_ HO_5.out))); (case aS => exact (below_size y13_)); (case aL => have := LMc33.out; first | omega | exact Nat.le_of_lt this); intro v150 w34 ho0 hb hg; have ho := Kd.R_of_own (h1 := fun _ => rfl) (ok := fun _ => True) ho0 (fun _ _ => trivial); clear ho0; have hat := True.intro; rw [← Ny149.out] at ho; change Kd.R (Kd.int .u8) 5 w34 w.heap.size (fun _ => True) v150 y149 at ho; have n0_ := Aside0.mk (hb); have n1_ := Aside0.mk (ho); clear HB; clear HO_5; have HB := n0_; have HO151 := n1_; clear n0_ n1_; clear ho hb hg hat))
           go_roundg k1
           case measure => have := HK1.out; omega
           case rel => exact ⟨(y149), (ji27), y12_, H', ⟨by have := HK1.out; omega⟩, ⟨by (with_reducible repeat (first | apply Kd.R_alloc | apply Kd.R_drewN | apply Kd.R_drew)); exact HO151.out⟩, ⟨y13_⟩⟩
         ·rw [if_neg c26] at H
          have c26b0 : decide ((wrap64 (x6_1 + 1)) < (a0.size : Int)) = false := decide_eq_false c26
          clear c26
          by_cases c35 : x5_1.length + (a0.extract (x6_1 : Int).toNat ((wrap64 (x6_1 + 1)) : Int).toNat).size < 140737488355328
          rotate_left
          ·rw [if_neg c35] at H
           exact absurd H (by simp)
          rw [if_pos c35] at H
          have LMc35 := Aside0.mk c35
          clear c35
          obtain ⟨y152, hy152⟩ : ∃ y_ : List Int, y_ = (x5_1 ++ bytesOf (a0.extract (x6_1 : Int).toNat ((wrap64 (x6_1 + 1)) : Int).toNat)) := ⟨_, rfl⟩
          replace H : (boltingref03_Write.l0 k1 a0 a1 y152 (wrap64 (x6_1 + 1))) = some r := by first | (rw [hy152]; with_reducible exact H) | (have H2_ := (Option.bind_some _ _).symm.trans H; rw [hy152]; with_reducible exact H2_) | (have H2_ := (Option.bind_some _ _).symm.trans H; with_reducible exact H2_) | with_reducible exact H | (rw [hy152]; exact H) | exact H
          have Ny152 := Aside0.mk hy152
          clear hy152
          have H' := Aside0.mk H
          clear H
          have p9 : 0 ≤ (x6_1 : Int) := of_decide_eq_true y2_
          have q9 : x6_1 < (a0.size : Int) := of_decide_eq_true y2_
          have hx9 := bt_at a0 x6_1
          replace p9 := eq_true p9
          replace q9 := eq_true q9
          go_wp2_with (first | (at_builtin; refine print_append_str (w0 := w) w.heap.size rfl (.tmp 48) _ 52 9 5 rfl Tryd.underlying52 Tryd.underlying9 info5 u5 x5_1 (a0.extract (x6_1 : Int).toNat ((wrap64 (x6_1 + 1)) : Int).toNat) rfl rfl ?aO ?aB ?aS ?aL ?_; (case aB => exact y13_); (case aO => exact (Kd.own_of_R (y7_ HO_5.out))); (case aS => exact (below_size y13_)); (case aL => have := LMc35.out; first | omega | exact Nat.le_of_lt this); intro v153 w36 ho0 hb hg; have ho := Kd.R_of_own (h1 := fun _ => rfl) (ok := fun _ => True) ho0 (fun _ _ => trivial); clear ho0; have hat := True.intro; rw [← Ny152.out] at ho; change Kd.R (Kd.int .u8) 5 w36 w.heap.size (fun _ => True) v153 y152 at ho; have n0_ := Aside0.mk (hb); have n1_ := Aside0.mk (ho); clear HB; clear HO_5; have HB := n0_; have HO154 := n1_; clear n0_ n1_; clear ho hb hg hat))
          go_roundg k1
          case measure => have := HK1.out; omega
          case rel => exact ⟨(y152), (wrap64 (x6_1 + 1)), y4_, H', ⟨by have := HK1.out; omega⟩, ⟨by (with_reducible repeat (first | apply Kd.R_alloc | apply Kd.R_drewN | apply Kd.R_drew)); exact HO154.out⟩, ⟨y13_⟩⟩
        ·rw [if_neg c25] at H
         have c25b0 : ((bt a0 x6_1) == 194) = false := beq_eq_false_iff_ne.mpr c25
         have c25b1 : ((bt a0 x6_1) != 194) = true := bne_iff_ne.mpr c25
         by_cases c37 : x5_1.length + (a0.extract (x6_1 : Int).toNat ((wrap64 (x6_1 + 1)) : Int).toNat).size < 140737488355328
         rotate_left
         ·rw [if_neg c37] at H
          exact absurd H (by simp)
         rw [if_pos c37] at H
         have LMc37 := Aside0.mk c37
         clear c37
         obtain ⟨y155, hy155⟩ : ∃ y_ : List Int, y_ = (x5_1 ++ bytesOf (a0.extract (x6_1 : Int).toNat ((wrap64 (x6_1 + 1)) : Int).toNat)) := ⟨_, rfl⟩
         replace H : (boltingref03_Write.l0 k1 a0 a1 y155 (wrap64 (x6_1 + 1))) = some r := by first | (rw [hy155]; with_reducible exact H) | (have H2_ := (Option.bind_some _ _).symm.trans H; rw [hy155]; with_reducible exact H2_) | (have H2_ := (Option.bind_some _ _).symm.trans H; with_reducible exact H2_) | with_reducible exact H | (rw [hy155]; exact H) | exact H
         have Ny155 := Aside0.mk hy155
         clear hy155
         have H' := Aside0.mk H
         clear H
         have p9 : 0 ≤ (x6_1 : Int) := of_decide_eq_true y2_
         have q9 : x6_1 < (a0.size : Int) := of_decide_eq_true y2_
         have hx9 := bt_at a0 x6_1
         replace p9 := eq_true p9
         replace q9 := eq_true q9
         go_wp2_with (first | (at_builtin; refine print_append_str (w0 := w) w.heap.size rfl (.tmp 48) _ 52 9 5 rfl Tryd.underlying52 Tryd.underlying9 info5 u5 x5_1 (a0.extract (x6_1 : Int).toNat ((wrap64 (x6_1 + 1)) : Int).toNat) rfl rfl ?aO ?aB ?aS ?aL ?_; (case aB => exact y13_); (case aO => exact (Kd.own_of_R (y7_ HO_5.out))); (case aS => exact (below_size y13_)); (case aL => have := LMc37.out; first | omega | exact Nat.le_of_lt this); intro v156 w38 ho0 hb hg; have ho := Kd.R_of_own (h1 := fun _ => rfl) (ok := fun _ => True) ho0 (fun _ _ => trivial); clear ho0; have hat := True.intro; rw [← Ny155.out] at ho; change Kd.R (Kd.int .u8) 5 w38 w.heap.size (fun _ => True) v156 y155 at ho; have n0_ := Aside0.mk (hb); have n1_ := Aside0.mk (ho); clear HB; clear HO_5; have HB := n0_; have HO157 := n1_; clear n0_ n1_; clear ho hb hg hat))
         go_roundg k1
         case measure => have := HK1.out; omega
         case rel => exact ⟨(y155), (wrap64 (x6_1 + 1)), y4_, H', ⟨by have := HK1.out; omega⟩, ⟨by (with_reducible repeat (first | apply Kd.R_alloc | apply Kd.R_drewN | apply Kd.R_drew)); exact HO157.out⟩, ⟨y13_⟩⟩
   ·rw [if_neg c5] at H
    have c5b0 : decide (x6_1 < (a0.size : Int)) = false := decide_eq_false c5
    clear c5
    obtain rfl := Option.some.inj H
    have hcv39 := own_string (P := Tryd.prog) Tryd.underlying52 Tryd.underlying5 Tryd.underlying9 (Kd.own_of_R HO_5.out)
    go_wp2
    go_ret
    exact ⟨y11_, y13_⟩
end Go.Proofs.YtpnhjipaeggcpaaDoor.X
end
section
namespace Go.Proofs.YtpnhjipaeggcpaaDoor.X
open Go.RowKit Go.Proofs.YtpnhjipaeggcpaaDoorW.PrintWords Go.Proofs.YtpnhjipaeggcpaaDoorW.PrintLast Go.Proofs.YtpnhjipaeggcpaaDoorW.PrintMore
attribute [local go_sem] max2_int min2_int max_two min_two max_three min_three max_four min_four
def boltingref08_tag.l0 : Nat → ByteArray → Int → Int → Int → ByteArray → ByteArray → List (S41) → Option (ByteArray)
 | 0, _, _, _, _, _, _, _ => none
 | k + 1, x3, x4, x162000, x162001, x162002, x162003, x162004 => if x4 < (x162004.length : Int) then (if 0 ≤ x4 then (if 1 + ((rd_T41 x162004 x4).f0).size ≤ 9223372036854775807 then (if ((⟨#[32]⟩ : ByteArray) ++ ((rd_T41 x162004 x4).f0)).size + 2 ≤ 9223372036854775807 then ((boltingref03_Write.f k ((rd_T41 x162004 x4).f1) true).bind fun t164 => (if (((⟨#[32]⟩ : ByteArray) ++ ((rd_T41 x162004 x4).f0)) ++ (⟨#[61, 34]⟩ : ByteArray)).size + t164.size ≤ 9223372036854775807 then (if ((((⟨#[32]⟩ : ByteArray) ++ ((rd_T41 x162004 x4).f0)) ++ (⟨#[61, 34]⟩ : ByteArray)) ++ t164).size + 1 ≤ 9223372036854775807 then (if x3.size + (((((⟨#[32]⟩ : ByteArray) ++ ((rd_T41 x162004 x4).f0)) ++ (⟨#[61, 34]⟩ : ByteArray)) ++ t164) ++ (⟨#[34]⟩ : ByteArray)).size ≤ 9223372036854775807 then (boltingref08_tag.l0 k (x3 ++ (((((⟨#[32]⟩ : ByteArray) ++ ((rd_T41 x162004 x4).f0)) ++ (⟨#[61, 34]⟩ : ByteArray)) ++ t164) ++ (⟨#[34]⟩ : ByteArray))) (wrap64 (x4 + 1)) x162000 x162001 x162002 x162003 x162004) else (none)) else (none)) else (none))) else (none)) else (none)) else (none)) else (if x3.size + 1 ≤ 9223372036854775807 then (some (x3 ++ (⟨#[62]⟩ : ByteArray))) else (none))
def boltingref08_tag.f (k : Nat) (a0_0 : Int) (a0_1 : Int) (a0_2 : ByteArray) (a0_3 : ByteArray) (l0_4 : List (S41)) : Option (ByteArray) := if 1 + a0_2.size ≤ 9223372036854775807 then (boltingref08_tag.l0 k ((⟨#[60]⟩ : ByteArray) ++ a0_2) 0 a0_0 a0_1 a0_2 a0_3 l0_4) else (none)
def boltingref08_tag.T5 : Bool × List (List Nat × List Nat) := (true, [([], []), ([], []), ([1], [1]), ([], []), ([2, 3], [2, 3]), ([4], [4]), ([5], [5]), ([6], [6]), ([7], [7]), ([], []), ([9], [9]), ([], []), ([10, 11], [10, 11]), ([12], [12]), ([13], [13]), ([14], [14]), ([8, 15], [8, 15]), ([16], [16]), ([0, 17], [0, 17]), ([18, 15, 0, 1, 2, 3, 4, 5, 6, 7, 8, 9, 10, 11, 12, 13, 14, 15, 16, 17, 18], [0, 18])])
def boltingref08_tag.B5 : List Nat := [0, 0, 2, 0, 14, 30, 62, 126, 254, 0, 512, 0, 3584, 7680, 15872, 32256, 65534, 131070, 262143, 524287]
theorem boltingref08_tag.tab5 : rtab .any (opsOf Tryd.f25 5) = boltingref08_tag.T5 := by kernel_rfl
theorem boltingref08_tag.bits5 : waitsOk boltingref08_tag.T5.2 boltingref08_tag.B5 = true := by kernel_rfl
set_option maxHeartbeats 8000000 in
set_option maxRecDepth 100000 in
theorem boltingref08_tag.calls (k : Nat) (a0_0 : Int) (a0_1 : Int) (a0_2 : ByteArray) (a0_3 : ByteArray) (A0_4 : Option Addr) (c0_4 : Nat) (l0_4 : List (S41)) (r : ByteArray) (w : World) (hr0_4 : Kd.C k41 w A0_4 l0_4.length l0_4) (hc0_4 : l0_4.length ≤ c0_4) (h : boltingref08_tag.f k a0_0 a0_1 a0_2 a0_3 l0_4 = some r) :
  Calls Tryd.prog 25 #[.agg #[.int .i64 a0_0, .int .i64 a0_1, .string a0_2, .string a0_3, .slice A0_4 l0_4.length c0_4]] w fun e w' => e = .returned (.string r) ∧ Below w.heap.size w w' := by
 have hu35 := Tryd.underlying35
 have HR0_4 := Aside0.mk hr0_4
 have HC0_4 := Aside0.mk hc0_4
 clear hr0_4 hc0_4
 have HB := Aside0.mk (Below.refl w.heap.size w)
 have H : (if 1 + a0_2.size ≤ 9223372036854775807 then (boltingref08_tag.l0 k ((⟨#[60]⟩ : ByteArray) ++ a0_2) 0 a0_0 a0_1 a0_2 a0_3 l0_4) else (none)) = some r := h
 clear h
 by_cases c2 : 1 + a0_2.size ≤ 9223372036854775807
 rotate_left
 ·rw [if_neg c2] at H
  exact absurd H (by simp)
 rw [if_pos c2] at H
 have c2b0 := eq_true c2
 have c2b1 : decide (1 + a0_2.size ≤ 9223372036854775807) = true := decide_eq_true c2
 try have c2b2 : (9223372036854775807 < 1 + a0_2.size) = False := eq_false (Nat.not_lt.2 c2)
 have H' := Aside0.mk H
 clear H
 go_enter Tryd.func25, Tryd.ntmps25
 go_wp2_with (first | ((with_reducible refine gate_dst (N := 1) rfl ?_); refine box_event ?hg (N := 1) ?hd (cs := #[.int .i64 a0_0, .int .i64 a0_1, .string a0_2, .string a0_3, .slice A0_4 l0_4.length c0_4]) (t := 35) ?hr ?_; (case hd => rfl); (case hg => rfl); (case hr => first | (go_simp; done) | (go_simp; rfl)); intro gb161 hg w3 hbox hb; have n0_ := Aside0.mk (below_step y13_ hb); have n1_ := Aside0.mk (hbox); have n2_ := Aside0.mk ((by rw [hg]; exact (below_size y13_) : w.heap.size ≤ gb161)); have n3_ := Aside0.mk ((by rw [hg]; exact (below_size y13_) : w.heap.size ≤ gb161)); clear HB; have HB := n0_; have BK161 := n1_; have GW161 := n2_; have GE161 := n3_; clear n0_ n1_ n2_ n3_; clear hb hbox hg; have hcz4_0 : w3.cell? ⟨gb161, 0, none⟩ = some (.int .i64 a0_0) := (blk_cell BK161.out 0).trans rfl; have hcz4_1 : w3.cell? ⟨gb161, 1, none⟩ = some (.int .i64 a0_1) := (blk_cell BK161.out 1).trans rfl; have hcz4_2 : w3.cell? ⟨gb161, 2, none⟩ = some (.string a0_2) := (blk_cell BK161.out 2).trans rfl; have hcz4_3 : w3.cell? ⟨gb161, 3, none⟩ = some (.string a0_3) := (blk_cell BK161.out 3).trans rfl; have hcz4_4 : w3.cell? ⟨gb161, 4, none⟩ = some (.slice A0_4 l0_4.length c0_4) := (blk_cell BK161.out 4).trans rfl; have hfz4_0 := blk_frozen BK161.out 0; have hfz4_1 := blk_frozen BK161.out 1; have hfz4_2 := blk_frozen BK161.out 2; have hfz4_3 := blk_frozen BK161.out 3; have hfz4_4 := blk_frozen BK161.out 4))
 go_loopg [3, 4] k (fun kq v3 v4 w' => ∃ (x3_1 : ByteArray) (x4_1 : Int), v3 = .string x3_1 ∧ v4 = .int .i64 x4_1 ∧ Aside0 (boltingref08_tag.l0 kq x3_1 x4_1 a0_0 a0_1 a0_2 a0_3 l0_4 = some r) ∧ Aside0 (kq ≤ k) ∧ Aside0 (w'.heap[gb161]? = some (.cells #[.int .i64 a0_0, .int .i64 a0_1, .string a0_2, .string a0_3, (.slice A0_4 l0_4.length c0_4)] 35 (0, 0))) ∧ Aside0 (Below w.heap.size w w'))
 case atStart => exact ⟨((⟨#[60]⟩ : ByteArray) ++ a0_2), (0), y4_, y4_, H', ⟨Nat.le_refl _⟩, ⟨by (with_reducible repeat (first | refine blk_drewN ?_ _ | refine blk_drew ?_ | refine blk_alloc ?_ _)); exact BK161.out⟩, ⟨(y17_ GE161.out)⟩⟩
 case round =>
  clear H'
  try clear c2
  try clear c2b0
  try clear c2b1
  try clear c2b2
  try clear p2
  try clear hcz4_0
  try clear hcz4_1
  try clear hcz4_2
  try clear hcz4_3
  try clear hcz4_4
  try clear hfz4_0
  try clear hfz4_1
  try clear hfz4_2
  try clear hfz4_3
  try clear hfz4_4
  obtain ⟨x3_1, x4_1, rfl, rfl, HA, HK1, BK161, HB⟩ := hrel
  cases gk with
  | zero => exact absurd HA.out (by simp [boltingref08_tag.l0])
  | succ k1 =>
   have H := HA.out
   clear HA
   simp only [boltingref08_tag.l0] at H
   by_cases c5 : x4_1 < (l0_4.length : Int)
   ·rw [if_pos c5] at H
    have c5b0 : decide (x4_1 < (l0_4.length : Int)) = true := decide_eq_true c5
    clear c5
    by_cases c6 : 0 ≤ x4_1
    rotate_left
    ·rw [if_neg c6] at H
     exact absurd H (by simp)
    rw [if_pos c6] at H
    have c6b0 : decide (0 ≤ x4_1) = true := decide_eq_true c6
    clear c6
    by_cases c7 : 1 + ((rd_T41 l0_4 x4_1).f0).size ≤ 9223372036854775807
    rotate_left
    ·rw [if_neg c7] at H
     exact absurd H (by simp)
    rw [if_pos c7] at H
    have c7b0 := eq_true c7
    have c7b1 : decide (1 + ((rd_T41 l0_4 x4_1).f0).size ≤ 9223372036854775807) = true := decide_eq_true c7
    try have c7b2 : (9223372036854775807 < 1 + ((rd_T41 l0_4 x4_1).f0).size) = False := eq_false (Nat.not_lt.2 c7)
    by_cases c8 : ((⟨#[32]⟩ : ByteArray) ++ ((rd_T41 l0_4 x4_1).f0)).size + 2 ≤ 9223372036854775807
    rotate_left
    ·rw [if_neg c8] at H
     exact absurd H (by simp)
    rw [if_pos c8] at H
    have c8b0 := eq_true c8
    have c8b1 : decide (((⟨#[32]⟩ : ByteArray) ++ ((rd_T41 l0_4 x4_1).f0)).size + 2 ≤ 9223372036854775807) = true := decide_eq_true c8
    try have c8b2 : (9223372036854775807 < ((⟨#[32]⟩ : ByteArray) ++ ((rd_T41 l0_4 x4_1).f0)).size + 2) = False := eq_false (Nat.not_lt.2 c8)
    try (have c8p_ := c8b2; simp only [ByteArray.size_append, lit_size, List.length_cons, List.length_nil, Nat.reduceAdd, Nat.zero_add] at c8p_)
    replace H := Option.bind_eq_some_iff.mp H
    obtain ⟨t164, A90, H⟩ := H
    have A9 := Aside0.mk A90
    clear A90
    by_cases c10 : (((⟨#[32]⟩ : ByteArray) ++ ((rd_T41 l0_4 x4_1).f0)) ++ (⟨#[61, 34]⟩ : ByteArray)).size + t164.size ≤ 9223372036854775807
    rotate_left
    ·rw [if_neg c10] at H
     exact absurd H (by simp)
    rw [if_pos c10] at H
    have c10b0 := eq_true c10
    have c10b1 : decide ((((⟨#[32]⟩ : ByteArray) ++ ((rd_T41 l0_4 x4_1).f0)) ++ (⟨#[61, 34]⟩ : ByteArray)).size + t164.size ≤ 9223372036854775807) = true := decide_eq_true c10
    try have c10b2 : (9223372036854775807 < (((⟨#[32]⟩ : ByteArray) ++ ((rd_T41 l0_4 x4_1).f0)) ++ (⟨#[61, 34]⟩ : ByteArray)).size + t164.size) = False := eq_false (Nat.not_lt.2 c10)
    try (have c10p_ := c10b2; simp only [ByteArray.size_append, lit_size, List.length_cons, List.length_nil, Nat.reduceAdd, Nat.zero_add] at c10p_)
    by_cases c11 : ((((⟨#[32]⟩ : ByteArray) ++ ((rd_T41 l0_4 x4_1).f0)) ++ (⟨#[61, 34]⟩ : ByteArray)) ++ t164).size + 1 ≤ 9223372036854775807
    rotate_left
    ·rw [if_neg c11] at H
     exact absurd H (by simp)
    rw [if_pos c11] at H
    have c11b0 := eq_true c11
    have c11b1 : decide (((((⟨#[32]⟩ : ByteArray) ++ ((rd_T41 l0_4 x4_1).f0)) ++ (⟨#[61, 34]⟩ : ByteArray)) ++ t164).size + 1 ≤ 9223372036854775807) = true := decide_eq_true c11
    try have c11b2 : (9223372036854775807 < ((((⟨#[32]⟩ : ByteArray) ++ ((rd_T41 l0_4 x4_1).f0)) ++ (⟨#[61, 34]⟩ : ByteArray)) ++ t164).size + 1) = False := eq_false (Nat.not_lt.2 c11)
    try (have c11p_ := c11b2; simp only [ByteArray.size_append, lit_size, List.length_cons, List.length_nil, Nat.reduceAdd, Nat.zero_add] at c11p_)
    by_cases c12 : x3_1.size + (((((⟨#[32]⟩ : ByteArray) ++ ((rd_T41 l0_4 x4_1).f0)) ++ (⟨#[61, 34]⟩ : ByteArray)) ++ t164) ++ (⟨#[34]⟩ : ByteArray)).size ≤ 9223372036854775807
    rotate_left
    ·rw [if_neg c12] at H
     exact absurd H (by simp)
    rw [if_pos c12] at H
    have c12b0 := eq_true c12
    have c12b1 : decide (x3_1.size + (((((⟨#[32]⟩ : ByteArray) ++ ((rd_T41 l0_4 x4_1).f0)) ++ (⟨#[61, 34]⟩ : ByteArray)) ++ t164) ++ (⟨#[34]⟩ : ByteArray)).size ≤ 9223372036854775807) = true := decide_eq_true c12
    try have c12b2 : (9223372036854775807 < x3_1.size + (((((⟨#[32]⟩ : ByteArray) ++ ((rd_T41 l0_4 x4_1).f0)) ++ (⟨#[61, 34]⟩ : ByteArray)) ++ t164) ++ (⟨#[34]⟩ : ByteArray)).size) = False := eq_false (Nat.not_lt.2 c12)
    try (have c12p_ := c12b2; simp only [ByteArray.size_append, lit_size, List.length_cons, List.length_nil, Nat.reduceAdd, Nat.zero_add] at c12p_)
    have H' := Aside0.mk H
    clear H
    have hcz13_0 : wr.cell? ⟨gb161, 0, none⟩ = some (.int .i64 a0_0) := (blk_cell BK161.out 0).trans rfl
    have hcz13_1 : wr.cell? ⟨gb161, 1, none⟩ = some (.int .i64 a0_1) := (blk_cell BK161.out 1).trans rfl
    have hcz13_2 : wr.cell? ⟨gb161, 2, none⟩ = some (.string a0_2) := (blk_cell BK161.out 2).trans rfl
    have hcz13_3 : wr.cell? ⟨gb161, 3, none⟩ = some (.string a0_3) := (blk_cell BK161.out 3).trans rfl
    have hcz13_4 : wr.cell? ⟨gb161, 4, none⟩ = some (.slice A0_4 l0_4.length c0_4) := (blk_cell BK161.out 4).trans rfl
    have hfz13_0 := blk_frozen BK161.out 0
    have hfz13_1 := blk_frozen BK161.out 1
    have hfz13_2 := blk_frozen BK161.out 2
    have hfz13_3 := blk_frozen BK161.out 3
    have hfz13_4 := blk_frozen BK161.out 4
    try go_wp2
    have n0_ := Aside0.mk (blk_drew BK161.out)
    have n1_ := Aside0.mk (below_drew1 HB.out)
    clear BK161
    clear HB
    have BK161 := n0_
    have HB := n1_
    clear n0_ n1_
    have p162 : 0 ≤ (x4_1 : Int) := of_decide_eq_true y2_
    have q162 : x4_1 < (l0_4.length : Int) := of_decide_eq_true y2_
    obtain ⟨ad162, e162, hx162_0, hx162_1⟩ := at_T41 HR0_4.out x4_1 p162 q162
    have hw162_1 := hx162_1
    have hw162_0 := hx162_0
    cases e162
    replace hx162_0 := (HB.out.cell (World.block_lt_of_cell? w _ hx162_0)).trans hx162_0
    replace hx162_1 := (HB.out.cell (World.block_lt_of_cell? w _ hx162_1)).trans hx162_1
    replace p162 := eq_true p162
    replace q162 := eq_true q162
    have p163 : 0 ≤ (x4_1 : Int) := of_decide_eq_true y2_
    have q163 : x4_1 < (l0_4.length : Int) := of_decide_eq_true y2_
    obtain ⟨ad163, e163, hx163_0, hx163_1⟩ := at_T41 HR0_4.out x4_1 p163 q163
    have hw163_1 := hx163_1
    have hw163_0 := hx163_0
    obtain rfl : ad162 = ad163 := (by injection e163)
    replace hx163_0 := (HB.out.cell (World.block_lt_of_cell? w _ hx163_0)).trans hx163_0
    replace hx163_1 := (HB.out.cell (World.block_lt_of_cell? w _ hx163_1)).trans hx163_1
    replace p163 := eq_true p163
    replace q163 := eq_true q163
    refine start_ (n := 20) (S := fun w' => w'.cell? ⟨gb161, 0, none⟩ = some (.int .i64 a0_0) ∧ w'.cell? ⟨gb161, 1, none⟩ = some (.int .i64 a0_1) ∧ w'.cell? ⟨gb161, 2, none⟩ = some (.string a0_2) ∧ w'.cell? ⟨gb161, 3, none⟩ = some (.string a0_3) ∧ w'.cell? ⟨gb161, 4, none⟩ = some (.slice (some ad162) l0_4.length c0_4) ∧ w'.cell? (ad162.add ((x4_1).toNat * 2)) = some (.string ((rd_T41 l0_4 x4_1).f0)) ∧ w'.cell? ⟨(ad162.add ((x4_1).toNat * 2)).block, (ad162.add ((x4_1).toNat * 2)).off + 1, none⟩ = some (.string ((rd_T41 l0_4 x4_1).f1)) ∧ w'.cell? (ad162.add ((x4_1).toNat * 2)) = some (.string ((rd_T41 l0_4 x4_1).f0)) ∧ w'.cell? ⟨(ad162.add ((x4_1).toNat * 2)).block, (ad162.add ((x4_1).toNat * 2)).off + 1, none⟩ = some (.string ((rd_T41 l0_4 x4_1).f1))) (ds := []) #[false, false, false, false, false, false, false, false, false, false, false, false, false, false, false, false, false, false, false, false] (by kernel_rfl) rfl rfl ⟨(blk_cell BK161.out 0).trans rfl, (blk_cell BK161.out 1).trans rfl, (blk_cell BK161.out 2).trans rfl, (blk_cell BK161.out 3).trans rfl, (blk_cell BK161.out 4).trans rfl, ((HB.out.cell (World.block_lt_of_cell? w _ hw162_0)).trans hw162_0), ((HB.out.cell (World.block_lt_of_cell? w _ hw162_1)).trans hw162_1), ((HB.out.cell (World.block_lt_of_cell? w _ hw163_0)).trans hw163_0), ((HB.out.cell (World.block_lt_of_cell? w _ hw163_1)).trans hw163_1)⟩ (fun hHeld => ?_); refine with_tabW boltingref08_tag.tab5 boltingref08_tag.bits5 (fun HT_ HW_ => ?_)
    generalize wr.drew = w14 at BK161 HB hx162_0 hx162_1 hx163_0 hx163_1 hHeld ⊢
    refine pure_ (i := 0) (N := some 15) (v := ?_) (a' := ?_) #[true, false, false, false, false, false, false, false, false, false, false, false, false, false, false, false, false, false, false, false] rfl rfl (any_of HT_.out (by kernel_rfl)) (fun _ _ _ h => h) (Or.inl ⟨by rfl, ?_⟩) ?_ ?_
    rotate_left
    ·intro w'
     go_simp
     with_reducible rfl
    rotate_left
    ·simp only [Act.put, List.setIfInBounds_toArray, List.set_cons_zero, List.set_cons_succ, i64_w, i32_w]
     rfl
    refine pure_ (i := 1) (N := some 16) (v := ?_) (a' := ?_) #[true, true, false, false, false, false, false, false, false, false, false, false, false, false, false, false, false, false, false, false] rfl rfl (any_of HT_.out (by kernel_rfl)) (fun _ _ _ h => h) (Or.inl ⟨by rfl, ?_⟩) ?_ ?_
    rotate_left
    ·intro w'
     go_simp
     with_reducible rfl
    rotate_left
    ·simp only [Act.put, List.setIfInBounds_toArray, List.set_cons_zero, List.set_cons_succ, i64_w, i32_w]
     rfl
    refine pure_ (i := 3) (N := some 18) (v := ?_) (a' := ?_) #[true, true, false, true, false, false, false, false, false, false, false, false, false, false, false, false, false, false, false, false] rfl rfl (any_of HT_.out (by kernel_rfl)) (fun _ _ _ h => h) (Or.inl ⟨by rfl, ?_⟩) ?_ ?_
    rotate_left
    ·intro w'
     go_simp
     with_reducible rfl
    rotate_left
    ·simp only [Act.put, List.setIfInBounds_toArray, List.set_cons_zero, List.set_cons_succ, i64_w, i32_w]
     rfl
    refine pure_ (i := 9) (N := some 24) (v := ?_) (a' := ?_) #[true, true, false, true, false, false, false, false, false, true, false, false, false, false, false, false, false, false, false, false] rfl rfl (any_of HT_.out (by kernel_rfl)) (fun _ _ _ h => h) (Or.inl ⟨by rfl, ?_⟩) ?_ ?_
    rotate_left
    ·intro w'
     go_simp
     with_reducible rfl
    rotate_left
    ·simp only [Act.put, List.setIfInBounds_toArray, List.set_cons_zero, List.set_cons_succ, i64_w, i32_w]
     rfl
    refine pure_ (i := 11) (N := some 26) (v := ?_) (a' := ?_) #[true, true, false, true, false, false, false, false, false, true, false, true, false, false, false, false, false, false, false, false] rfl rfl (any_of HT_.out (by kernel_rfl)) (fun _ _ _ h => h) (Or.inl ⟨by rfl, ?_⟩) ?_ ?_
    rotate_left
    ·intro w'
     go_simp
     with_reducible rfl
    rotate_left
    ·simp only [Act.put, List.setIfInBounds_toArray, List.set_cons_zero, List.set_cons_succ, i64_w, i32_w]
     rfl
    refine take_ (i := 2) (N := some 17) (v := ?_) (a' := ?_) #[true, true, true, true, false, false, false, false, false, true, false, true, false, false, false, false, false, false, false, false] rfl rfl (take_ofW HT_.out HW_.out (by kernel_rfl)) (fun _ _ _ h => h) (Or.inl ⟨by rfl, ?_⟩) hHeld ?_ ?_
    rotate_left
    ·rintro w' ⟨s0, s1, s2, s3, s4, s5, s6, s7, s8⟩
     go_simp
     with_reducible rfl
    rotate_left
    ·simp only [Act.put, List.setIfInBounds_toArray, List.set_cons_zero, List.set_cons_succ, i64_w, i32_w]
     rfl
    refine pure_ (i := 4) (N := some 19) (v := ?_) (a' := ?_) #[true, true, true, true, true, false, false, false, false, true, false, true, false, false, false, false, false, false, false, false] rfl rfl (any_of HT_.out (by kernel_rfl)) (fun _ _ _ h => h) (Or.inl ⟨by rfl, ?_⟩) ?_ ?_
    rotate_left
    ·intro w'
     go_simp
     with_reducible rfl
    rotate_left
    ·simp only [Act.put, List.setIfInBounds_toArray, List.set_cons_zero, List.set_cons_succ, i64_w, i32_w]
     rfl
    refine pure_ (i := 5) (N := some 20) (v := ?_) (a' := ?_) #[true, true, true, true, true, true, false, false, false, true, false, true, false, false, false, false, false, false, false, false] rfl rfl (any_of HT_.out (by kernel_rfl)) (fun _ _ _ h => h) (Or.inl ⟨by rfl, ?_⟩) ?_ ?_
    rotate_left
    ·intro w'
     go_simp
     with_reducible rfl
    rotate_left
    ·simp only [Act.put, List.setIfInBounds_toArray, List.set_cons_zero, List.set_cons_succ, i64_w, i32_w]
     rfl
    refine take_ (i := 6) (N := some 21) (v := ?_) (a' := ?_) #[true, true, true, true, true, true, true, false, false, true, false, true, false, false, false, false, false, false, false, false] rfl rfl (take_ofW HT_.out HW_.out (by kernel_rfl)) (fun _ _ _ h => h) (Or.inl ⟨by rfl, ?_⟩) hHeld ?_ ?_
    rotate_left
    ·rintro w' ⟨s0, s1, s2, s3, s4, s5, s6, s7, s8⟩
     go_simp
     with_reducible rfl
    rotate_left
    ·simp only [Act.put, List.setIfInBounds_toArray, List.set_cons_zero, List.set_cons_succ, i64_w, i32_w]
     rfl
    refine pure_ (i := 7) (N := some 22) (v := ?_) (a' := ?_) #[true, true, true, true, true, true, true, true, false, true, false, true, false, false, false, false, false, false, false, false] rfl rfl (any_of HT_.out (by kernel_rfl)) (fun _ _ _ h => h) (Or.inl ⟨by rfl, ?_⟩) ?_ ?_
    rotate_left
    ·intro w'
     go_simp
     with_reducible rfl
    rotate_left
    ·simp only [Act.put, List.setIfInBounds_toArray, List.set_cons_zero, List.set_cons_succ, i64_w, i32_w]
     rfl
    refine pure_ (i := 8) (N := some 23) (v := ?_) (a' := ?_) #[true, true, true, true, true, true, true, true, true, true, false, true, false, false, false, false, false, false, false, false] rfl rfl (any_of HT_.out (by kernel_rfl)) (fun _ _ _ h => h) (Or.inl ⟨by rfl, ?_⟩) ?_ ?_
    rotate_left
    ·intro w'
     go_simp
     with_reducible rfl
    rotate_left
    ·simp only [Act.put, List.setIfInBounds_toArray, List.set_cons_zero, List.set_cons_succ, i64_w, i32_w]
     rfl
    refine take_ (i := 10) (N := some 25) (v := ?_) (a' := ?_) #[true, true, true, true, true, true, true, true, true, true, true, true, false, false, false, false, false, false, false, false] rfl rfl (take_ofW HT_.out HW_.out (by kernel_rfl)) (fun _ _ _ h => h) (Or.inl ⟨by rfl, ?_⟩) hHeld ?_ ?_
    rotate_left
    ·rintro w' ⟨s0, s1, s2, s3, s4, s5, s6, s7, s8⟩
     go_simp
     with_reducible rfl
    rotate_left
    ·simp only [Act.put, List.setIfInBounds_toArray, List.set_cons_zero, List.set_cons_succ, i64_w, i32_w]
     rfl
    refine pure_ (i := 12) (N := some 27) (v := ?_) (a' := ?_) #[true, true, true, true, true, true, true, true, true, true, true, true, true, false, false, false, false, false, false, false] rfl rfl (any_of HT_.out (by kernel_rfl)) (fun _ _ _ h => h) (Or.inl ⟨by rfl, ?_⟩) ?_ ?_
    rotate_left
    ·intro w'
     go_simp
     with_reducible rfl
    rotate_left
    ·simp only [Act.put, List.setIfInBounds_toArray, List.set_cons_zero, List.set_cons_succ, i64_w, i32_w]
     rfl
    refine pure_ (i := 13) (N := some 28) (v := ?_) (a' := ?_) #[true, true, true, true, true, true, true, true, true, true, true, true, true, true, false, false, false, false, false, false] rfl rfl (any_of HT_.out (by kernel_rfl)) (fun _ _ _ h => h) (Or.inl ⟨by rfl, ?_⟩) ?_ ?_
    rotate_left
    ·intro w'
     go_simp
     with_reducible rfl
    rotate_left
    ·simp only [Act.put, List.setIfInBounds_toArray, List.set_cons_zero, List.set_cons_succ, i64_w, i32_w]
     rfl
    refine take_ (i := 14) (N := some 29) (v := ?_) (a' := ?_) #[true, true, true, true, true, true, true, true, true, true, true, true, true, true, true, false, false, false, false, false] rfl rfl (take_ofW HT_.out HW_.out (by kernel_rfl)) (fun _ _ _ h => h) (Or.inl ⟨by rfl, ?_⟩) hHeld ?_ ?_
    rotate_left
    ·rintro w' ⟨s0, s1, s2, s3, s4, s5, s6, s7, s8⟩
     go_simp
     with_reducible rfl
    rotate_left
    ·simp only [Act.put, List.setIfInBounds_toArray, List.set_cons_zero, List.set_cons_succ, i64_w, i32_w]
     rfl
    refine one_ (i := 15) (N := some 30) #[true, true, true, true, true, true, true, true, true, true, true, true, true, true, true, true, false, false, false, false] rfl rfl (one_of HT_.out (by kernel_rfl)) (by decide) (fun K hK => ?_)
    refine goes_ Tryd.func23 (by kernel_rfl) rfl #[.string ((rd_T41 l0_4 x4_1).f1), .bool true] (by rfl) rfl rfl y14_ ?_
    with_reducible refine (boltingref03_Write.calls k1 ((rd_T41 l0_4 x4_1).f1) true t164 _ A9.out).mono ?_
    rintro e w15 ⟨rfl, hb⟩
    refine ⟨_, rfl, ?_⟩
    have n0_ := Aside0.mk (blk_below (g := gb161) (o := .cells #[.int .i64 a0_0, .int .i64 a0_1, .string a0_2, .string a0_3, .slice (some ad162) l0_4.length c0_4] 35 (0, 0)) (y10_ BK161.out) hb)
    have n1_ := Aside0.mk (below_step (y17_ GE161.out) hb)
    clear BK161
    clear HB
    have BK161 := n0_
    have HB := n1_
    clear n0_ n1_
    (try clear hb)
    (try clear hb2)
    (try clear hk)
    (try clear hi)
    refine hK.out _ _ ⟨(blk_cell BK161.out 0).trans rfl, (blk_cell BK161.out 1).trans rfl, (blk_cell BK161.out 2).trans rfl, (blk_cell BK161.out 3).trans rfl, (blk_cell BK161.out 4).trans rfl, ((HB.out.cell (World.block_lt_of_cell? w _ hw162_0)).trans hw162_0), ((HB.out.cell (World.block_lt_of_cell? w _ hw162_1)).trans hw162_1), ((HB.out.cell (World.block_lt_of_cell? w _ hw163_0)).trans hw163_0), ((HB.out.cell (World.block_lt_of_cell? w _ hw163_1)).trans hw163_1)⟩ (fun hHeld => ?_)
    clear hK K
    refine norm_ (a' := ?_) ?_ ?_
    rotate_left
    ·show Act.put _ (some 30) _ = _
     simp only [Act.put, List.setIfInBounds_toArray, List.set_cons_zero, List.set_cons_succ, i64_w, i32_w]
     rfl
    refine pure_ (i := 16) (N := some 31) (v := ?_) (a' := ?_) #[true, true, true, true, true, true, true, true, true, true, true, true, true, true, true, true, true, false, false, false] rfl rfl (any_of HT_.out (by kernel_rfl)) (fun _ _ _ h => h) (Or.inl ⟨by rfl, ?_⟩) ?_ ?_
    rotate_left
    ·intro w'
     go_simp
     with_reducible rfl
    rotate_left
    ·simp only [Act.put, List.setIfInBounds_toArray, List.set_cons_zero, List.set_cons_succ, i64_w, i32_w]
     rfl
    refine pure_ (i := 17) (N := some 32) (v := ?_) (a' := ?_) #[true, true, true, true, true, true, true, true, true, true, true, true, true, true, true, true, true, true, false, false] rfl rfl (any_of HT_.out (by kernel_rfl)) (fun _ _ _ h => h) (Or.inl ⟨by rfl, ?_⟩) ?_ ?_
    rotate_left
    ·intro w'
     go_simp
     with_reducible rfl
    rotate_left
    ·simp only [Act.put, List.setIfInBounds_toArray, List.set_cons_zero, List.set_cons_succ, i64_w, i32_w]
     rfl
    refine pure_ (i := 18) (N := some 33) (v := ?_) (a' := ?_) #[true, true, true, true, true, true, true, true, true, true, true, true, true, true, true, true, true, true, true, false] rfl rfl (any_of HT_.out (by kernel_rfl)) (fun _ _ _ h => h) (Or.inl ⟨by rfl, ?_⟩) ?_ ?_
    rotate_left
    ·intro w'
     go_simp
     with_reducible rfl
    rotate_left
    ·simp only [Act.put, List.setIfInBounds_toArray, List.set_cons_zero, List.set_cons_succ, i64_w, i32_w]
     rfl
    refine pure_ (i := 19) (N := some 3) (v := ?_) (a' := ?_) #[true, true, true, true, true, true, true, true, true, true, true, true, true, true, true, true, true, true, true, true] rfl rfl (any_of HT_.out (by kernel_rfl)) (fun _ _ _ h => h) (Or.inl ⟨by rfl, ?_⟩) ?_ ?_
    rotate_left
    ·intro w'
     go_simp
     with_reducible rfl
    rotate_left
    ·simp only [Act.put, List.setIfInBounds_toArray, List.set_cons_zero, List.set_cons_succ, i64_w, i32_w]
     rfl
    refine done_ (done_of HT_.out (by kernel_rfl)) ?_
    try go_wp2
    go_roundg k1
    case measure => have := HK1.out; omega
    case rel => exact ⟨(x3_1 ++ (((((⟨#[32]⟩ : ByteArray) ++ ((rd_T41 l0_4 x4_1).f0)) ++ (⟨#[61, 34]⟩ : ByteArray)) ++ t164) ++ (⟨#[34]⟩ : ByteArray))), (wrap64 (x4_1 + 1)), y4_, y4_, H', ⟨by have := HK1.out; omega⟩, ⟨by (with_reducible repeat (first | refine blk_drewN ?_ _ | refine blk_drew ?_ | refine blk_alloc ?_ _)); exact BK161.out⟩, ⟨(y17_ GE161.out)⟩⟩
   ·rw [if_neg c5] at H
    have c5b0 : decide (x4_1 < (l0_4.length : Int)) = false := decide_eq_false c5
    clear c5
    by_cases c16 : x3_1.size + 1 ≤ 9223372036854775807
    rotate_left
    ·rw [if_neg c16] at H
     exact absurd H (by simp)
    rw [if_pos c16] at H
    have c16b0 := eq_true c16
    have c16b1 : decide (x3_1.size + 1 ≤ 9223372036854775807) = true := decide_eq_true c16
    try have c16b2 : (9223372036854775807 < x3_1.size + 1) = False := eq_false (Nat.not_lt.2 c16)
    obtain rfl := Option.some.inj H
    have hcz17_0 : wr.cell? ⟨gb161, 0, none⟩ = some (.int .i64 a0_0) := (blk_cell BK161.out 0).trans rfl
    have hcz17_1 : wr.cell? ⟨gb161, 1, none⟩ = some (.int .i64 a0_1) := (blk_cell BK161.out 1).trans rfl
    have hcz17_2 : wr.cell? ⟨gb161, 2, none⟩ = some (.string a0_2) := (blk_cell BK161.out 2).trans rfl
    have hcz17_3 : wr.cell? ⟨gb161, 3, none⟩ = some (.string a0_3) := (blk_cell BK161.out 3).trans rfl
    have hcz17_4 : wr.cell? ⟨gb161, 4, none⟩ = some (.slice A0_4 l0_4.length c0_4) := (blk_cell BK161.out 4).trans rfl
    have hfz17_0 := blk_frozen BK161.out 0
    have hfz17_1 := blk_frozen BK161.out 1
    have hfz17_2 := blk_frozen BK161.out 2
    have hfz17_3 := blk_frozen BK161.out 3
    have hfz17_4 := blk_frozen BK161.out 4
    go_wp2
    go_ret
    exact ⟨y11_, (y17_ GE161.out)⟩
end Go.Proofs.YtpnhjipaeggcpaaDoor.X
end
section
namespace Go.Proofs.YtpnhjipaeggcpaaDoor.X
open Go.RowKit Go.Proofs.YtpnhjipaeggcpaaDoorW.PrintWords Go.Proofs.YtpnhjipaeggcpaaDoorW.PrintLast Go.Proofs.YtpnhjipaeggcpaaDoorW.PrintMore
attribute [local go_sem] max2_int min2_int max_two min_two max_three min_three max_four min_four
mutual
def boltingref04_Row.j0 : Nat → Bool → Int → Int → ByteArray → ByteArray → List (S41) → Option (Bool)
 | 0, _, _, _, _, _, _ => none
 | k + 1, x12, x115000, x115001, x115002, x115003, x115004 => if x12 = true then (if x115002.toList = ([] : List UInt8) then (some ((x115004.length : Int) == 0)) else (some false)) else (boltingref04_Row.l0 k 0 x115000 x115001 x115002 x115003 x115004)
def boltingref04_Row.l0 : Nat → Int → Int → Int → ByteArray → ByteArray → List (S41) → Option (Bool)
 | 0, _, _, _, _, _, _ => none
 | k + 1, x3, x115000, x115001, x115002, x115003, x115004 => if x3 < (x115004.length : Int) then (boltingref04_Row.l1 k x3 0 x115000 x115001 x115002 x115003 x115004) else (if x115001 = 0 then (if x115002.toList = ([] : List UInt8) then (some false) else (some (x115003.toList == ([] : List UInt8)))) else (some false))
def boltingref04_Row.l1 : Nat → Int → Int → Int → Int → ByteArray → ByteArray → List (S41) → Option (Bool)
 | 0, _, _, _, _, _, _, _ => none
 | k + 1, x3, x4, x115000, x115001, x115002, x115003, x115004 => if x4 < x3 then (if 0 ≤ x3 then (if x3 < (x115004.length : Int) then (if 0 ≤ x4 then (if x4 < (x115004.length : Int) then (if ((rd_T41 x115004 x3).f0).toList = ((rd_T41 x115004 x4).f0).toList then (some false) else (boltingref04_Row.l1 k x3 (wrap64 (x4 + 1)) x115000 x115001 x115002 x115003 x115004)) else (none)) else (none)) else (none)) else (none)) else (boltingref04_Row.l0 k (wrap64 (x3 + 1)) x115000 x115001 x115002 x115003 x115004)
end
def boltingref04_Row.f (k : Nat) (a0_0 : Int) (a0_1 : Int) (a0_2 : ByteArray) (a0_3 : ByteArray) (l0_4 : List (S41)) : Option (Bool) := if a0_1 = 1 then (boltingref04_Row.j0 k true a0_0 a0_1 a0_2 a0_3 l0_4) else (boltingref04_Row.j0 k (a0_1 == 2) a0_0 a0_1 a0_2 a0_3 l0_4)
set_option maxHeartbeats 8000000 in
set_option maxRecDepth 100000 in
theorem boltingref04_Row.calls (k : Nat) (a0_0 : Int) (a0_1 : Int) (a0_2 : ByteArray) (a0_3 : ByteArray) (A0_4 : Option Addr) (c0_4 : Nat) (l0_4 : List (S41)) (r : Bool) (w : World) (hr0_4 : Kd.C k41 w A0_4 l0_4.length l0_4) (hc0_4 : l0_4.length ≤ c0_4) (h : boltingref04_Row.f k a0_0 a0_1 a0_2 a0_3 l0_4 = some r) :
  Calls Tryd.prog 18 #[.agg #[.int .i64 a0_0, .int .i64 a0_1, .string a0_2, .string a0_3, .slice A0_4 l0_4.length c0_4]] w fun e w' => e = .returned (.bool r) ∧ Below w.heap.size w w' := by
 have hu35 := Tryd.underlying35
 have HR0_4 := Aside0.mk hr0_4
 have HC0_4 := Aside0.mk hc0_4
 clear hr0_4 hc0_4
 have HB := Aside0.mk (Below.refl w.heap.size w)
 have H : (if a0_1 = 1 then (boltingref04_Row.j0 k true a0_0 a0_1 a0_2 a0_3 l0_4) else (boltingref04_Row.j0 k (a0_1 == 2) a0_0 a0_1 a0_2 a0_3 l0_4)) = some r := h
 clear h
 have HC2 := Aside0.mk H
 clear H
 go_enter Tryd.func18, Tryd.ntmps18
 go_upto_region 1 with (first | ((with_reducible refine gate_dst (N := 1) rfl ?_); (try (refine gate_guard (by rfl) ?_; dsimp only)); refine box_event ?hg (N := 1) ?hd (cs := #[.int .i64 a0_0, .int .i64 a0_1, .string a0_2, .string a0_3, .slice A0_4 l0_4.length c0_4]) (t := 35) ?hr ?_; (case hd => rfl); (case hg => rfl); (case hr => first | (go_simp; done) | (go_simp; rfl)); intro gb114 hg w3 hbox hb; have n0_ := Aside0.mk (below_step y13_ hb); have n1_ := Aside0.mk (hbox); have n2_ := Aside0.mk ((by rw [hg]; exact (below_size y13_) : w.heap.size ≤ gb114)); have n3_ := Aside0.mk ((by rw [hg]; exact (below_size y13_) : w.heap.size ≤ gb114)); clear HB; have HB := n0_; have BK114 := n1_; have GW114 := n2_; have GE114 := n3_; clear n0_ n1_ n2_ n3_; clear hb hbox hg))
 repeat (go_quiet (first | ((with_reducible refine gate_dst (N := 1) rfl ?_); (try (refine gate_guard (by rfl) ?_; dsimp only)); refine box_event ?hg (N := 1) ?hd (cs := #[.int .i64 a0_0, .int .i64 a0_1, .string a0_2, .string a0_3, .slice A0_4 l0_4.length c0_4]) (t := 35) ?hr ?_; (case hd => rfl); (case hg => rfl); (case hr => first | (go_simp; done) | (go_simp; rfl)); intro gb114 hg w3 hbox hb; have n0_ := Aside0.mk (below_step y13_ hb); have n1_ := Aside0.mk (hbox); have n2_ := Aside0.mk ((by rw [hg]; exact (below_size y13_) : w.heap.size ≤ gb114)); have n3_ := Aside0.mk ((by rw [hg]; exact (below_size y13_) : w.heap.size ≤ gb114)); clear HB; have HB := n0_; have BK114 := n1_; have GW114 := n2_; have GE114 := n3_; clear n0_ n1_ n2_ n3_; clear hb hbox hg)); go_upto_region 1 with (first | ((with_reducible refine gate_dst (N := 1) rfl ?_); (try (refine gate_guard (by rfl) ?_; dsimp only)); refine box_event ?hg (N := 1) ?hd (cs := #[.int .i64 a0_0, .int .i64 a0_1, .string a0_2, .string a0_3, .slice A0_4 l0_4.length c0_4]) (t := 35) ?hr ?_; (case hd => rfl); (case hg => rfl); (case hr => first | (go_simp; done) | (go_simp; rfl)); intro gb114 hg w3 hbox hb; have n0_ := Aside0.mk (below_step y13_ hb); have n1_ := Aside0.mk (hbox); have n2_ := Aside0.mk ((by rw [hg]; exact (below_size y13_) : w.heap.size ≤ gb114)); have n3_ := Aside0.mk ((by rw [hg]; exact (below_size y13_) : w.heap.size ≤ gb114)); clear HB; have HB := n0_; have BK114 := n1_; have GW114 := n2_; have GE114 := n3_; clear n0_ n1_ n2_ n3_; clear hb hbox hg)))
 (try simp only [Act.put, List.setIfInBounds_toArray, List.set_cons_zero, List.set_cons_succ])
 go_cut [12] (fun v12 wc => ∃ (kq : Nat) (x12_1 : Bool), v12 = .bool x12_1 ∧ Aside0 (boltingref04_Row.j0 kq x12_1 a0_0 a0_1 a0_2 a0_3 l0_4 = some r) ∧ Aside0 (kq ≤ k) ∧ Aside0 (wc.heap[gb114]? = some (.cells #[.int .i64 a0_0, .int .i64 a0_1, .string a0_2, .string a0_3, (.slice A0_4 l0_4.length c0_4)] 35 (0, 0))) ∧ Aside0 (Below w.heap.size w wc))
 case first =>
  have H := HC2.out
  clear HC2
  by_cases c4 : a0_1 = 1
  ·rw [if_pos c4] at H
   have c4b0 : (a0_1 == 1) = true := beq_iff_eq.mpr c4
   have c4b1 : (a0_1 != 1) = false := bne_eq_false_iff_eq.mpr c4
   clear c4
   (first | rw [c4b0] | (simp only [i64_w, i32_w]; rw [c4b0]) | skip)
   have H' := Aside0.mk H
   clear H
   have hcz5_0 : w3.cell? ⟨gb114, 0, none⟩ = some (.int .i64 a0_0) := (blk_cell BK114.out 0).trans rfl
   have hcz5_1 : w3.cell? ⟨gb114, 1, none⟩ = some (.int .i64 a0_1) := (blk_cell BK114.out 1).trans rfl
   have hcz5_2 : w3.cell? ⟨gb114, 2, none⟩ = some (.string a0_2) := (blk_cell BK114.out 2).trans rfl
   have hcz5_3 : w3.cell? ⟨gb114, 3, none⟩ = some (.string a0_3) := (blk_cell BK114.out 3).trans rfl
   have hcz5_4 : w3.cell? ⟨gb114, 4, none⟩ = some (.slice A0_4 l0_4.length c0_4) := (blk_cell BK114.out 4).trans rfl
   have hfz5_0 := blk_frozen BK114.out 0
   have hfz5_1 := blk_frozen BK114.out 1
   have hfz5_2 := blk_frozen BK114.out 2
   have hfz5_3 := blk_frozen BK114.out 3
   have hfz5_4 := blk_frozen BK114.out 4
   go_wp2
   repeat (go_quiet (fail); try go_wp2)
   go_meet
   case rel => exact ⟨_, (true), y4_, H', ⟨y1_⟩, ⟨by (with_reducible repeat (first | refine blk_drewN ?_ _ | refine blk_drew ?_ | refine blk_alloc ?_ _)); exact BK114.out⟩, ⟨(y17_ GE114.out)⟩⟩
  ·rw [if_neg c4] at H
   have c4b0 : (a0_1 == 1) = false := beq_eq_false_iff_ne.mpr c4
   have c4b1 : (a0_1 != 1) = true := bne_iff_ne.mpr c4
   (first | rw [c4b0] | (simp only [i64_w, i32_w]; rw [c4b0]) | skip)
   have H' := Aside0.mk H
   clear H
   have hcz6_0 : w3.cell? ⟨gb114, 0, none⟩ = some (.int .i64 a0_0) := (blk_cell BK114.out 0).trans rfl
   have hcz6_1 : w3.cell? ⟨gb114, 1, none⟩ = some (.int .i64 a0_1) := (blk_cell BK114.out 1).trans rfl
   have hcz6_2 : w3.cell? ⟨gb114, 2, none⟩ = some (.string a0_2) := (blk_cell BK114.out 2).trans rfl
   have hcz6_3 : w3.cell? ⟨gb114, 3, none⟩ = some (.string a0_3) := (blk_cell BK114.out 3).trans rfl
   have hcz6_4 : w3.cell? ⟨gb114, 4, none⟩ = some (.slice A0_4 l0_4.length c0_4) := (blk_cell BK114.out 4).trans rfl
   have hfz6_0 := blk_frozen BK114.out 0
   have hfz6_1 := blk_frozen BK114.out 1
   have hfz6_2 := blk_frozen BK114.out 2
   have hfz6_3 := blk_frozen BK114.out 3
   have hfz6_4 := blk_frozen BK114.out 4
   go_wp2
   repeat (go_quiet (fail); try go_wp2)
   go_meet
   case rel => exact ⟨_, ((a0_1 == 2)), y4_, H', ⟨y1_⟩, ⟨by (with_reducible repeat (first | refine blk_drewN ?_ _ | refine blk_drew ?_ | refine blk_alloc ?_ _)); exact BK114.out⟩, ⟨(y17_ GE114.out)⟩⟩
 case rest =>
  clear HC2
  try clear c1
  try clear p2
  try clear c4
  try clear c4b0
  try clear c4b1
  try clear hcz5_0
  try clear hcz5_1
  try clear hcz5_2
  try clear hcz5_3
  try clear hcz5_4
  try clear hcz6_0
  try clear hcz6_1
  try clear hcz6_2
  try clear hcz6_3
  try clear hcz6_4
  try clear hfz5_0
  try clear hfz5_1
  try clear hfz5_2
  try clear hfz5_3
  try clear hfz5_4
  try clear hfz6_0
  try clear hfz6_1
  try clear hfz6_2
  try clear hfz6_3
  try clear hfz6_4
  obtain ⟨kq, x12_1, rfl, HA, HJ1, BK114, HB⟩ := hcut
  cases kq with
  | zero => exact absurd HA.out (by simp [boltingref04_Row.j0])
  | succ kj1 =>
   have H := HA.out
   clear HA
   simp only [boltingref04_Row.j0] at H
   by_cases c7 : x12_1 = true
   ·subst c7
    rw [if_pos rfl] at H
    by_cases c8 : a0_2.toList = ([] : List UInt8)
    ·rw [if_pos c8] at H
     have c8b0 : (a0_2.toList == ([] : List UInt8)) = true := beq_iff_eq.mpr c8
     have c8b1 : (a0_2.toList != ([] : List UInt8)) = false := bne_eq_false_iff_eq.mpr c8
     clear c8
     obtain rfl := Option.some.inj H
     have hcz9_0 : wc.cell? ⟨gb114, 0, none⟩ = some (.int .i64 a0_0) := (blk_cell BK114.out 0).trans rfl
     have hcz9_1 : wc.cell? ⟨gb114, 1, none⟩ = some (.int .i64 a0_1) := (blk_cell BK114.out 1).trans rfl
     have hcz9_2 : wc.cell? ⟨gb114, 2, none⟩ = some (.string a0_2) := (blk_cell BK114.out 2).trans rfl
     have hcz9_3 : wc.cell? ⟨gb114, 3, none⟩ = some (.string a0_3) := (blk_cell BK114.out 3).trans rfl
     have hcz9_4 : wc.cell? ⟨gb114, 4, none⟩ = some (.slice A0_4 l0_4.length c0_4) := (blk_cell BK114.out 4).trans rfl
     have hfz9_0 := blk_frozen BK114.out 0
     have hfz9_1 := blk_frozen BK114.out 1
     have hfz9_2 := blk_frozen BK114.out 2
     have hfz9_3 := blk_frozen BK114.out 3
     have hfz9_4 := blk_frozen BK114.out 4
     go_wp2
     repeat (go_quiet (fail); try go_wp2)
     go_ret
     exact ⟨y11_, (y17_ GE114.out)⟩
    ·rw [if_neg c8] at H
     have c8b0 : (a0_2.toList == ([] : List UInt8)) = false := beq_eq_false_iff_ne.mpr c8
     have c8b1 : (a0_2.toList != ([] : List UInt8)) = true := bne_iff_ne.mpr c8
     obtain rfl := Option.some.inj H
     have hcz10_0 : wc.cell? ⟨gb114, 0, none⟩ = some (.int .i64 a0_0) := (blk_cell BK114.out 0).trans rfl
     have hcz10_1 : wc.cell? ⟨gb114, 1, none⟩ = some (.int .i64 a0_1) := (blk_cell BK114.out 1).trans rfl
     have hcz10_2 : wc.cell? ⟨gb114, 2, none⟩ = some (.string a0_2) := (blk_cell BK114.out 2).trans rfl
     have hcz10_3 : wc.cell? ⟨gb114, 3, none⟩ = some (.string a0_3) := (blk_cell BK114.out 3).trans rfl
     have hcz10_4 : wc.cell? ⟨gb114, 4, none⟩ = some (.slice A0_4 l0_4.length c0_4) := (blk_cell BK114.out 4).trans rfl
     have hfz10_0 := blk_frozen BK114.out 0
     have hfz10_1 := blk_frozen BK114.out 1
     have hfz10_2 := blk_frozen BK114.out 2
     have hfz10_3 := blk_frozen BK114.out 3
     have hfz10_4 := blk_frozen BK114.out 4
     go_wp2
     repeat (go_quiet (fail); try go_wp2)
     go_ret
     exact ⟨y11_, (y17_ GE114.out)⟩
   ·replace c7 := Bool.eq_false_iff.mpr c7
    subst c7
    rw [if_neg (show ¬ (false = true) by decide)] at H
    have H' := Aside0.mk H
    clear H
    go_wp2
    repeat (go_quiet (fail); try go_wp2)
    go_loopg [3] kj1 (fun kq v3 w' => ∃ (x3_2 : Int), v3 = .int .i64 x3_2 ∧ Aside0 (boltingref04_Row.l0 kq x3_2 a0_0 a0_1 a0_2 a0_3 l0_4 = some r) ∧ Aside0 (kq ≤ kj1) ∧ Aside0 (w'.heap[gb114]? = some (.cells #[.int .i64 a0_0, .int .i64 a0_1, .string a0_2, .string a0_3, (.slice A0_4 l0_4.length c0_4)] 35 (0, 0))) ∧ Aside0 (Below w.heap.size w w'))
    case atStart => exact ⟨(0), y4_, H', ⟨Nat.le_refl _⟩, ⟨by (with_reducible repeat (first | refine blk_drewN ?_ _ | refine blk_drew ?_ | refine blk_alloc ?_ _)); exact BK114.out⟩, ⟨(y17_ GE114.out)⟩⟩
    case round =>
     clear H'
     try clear c1
     try clear p2
     try clear c4
     try clear c4b0
     try clear c4b1
     try clear c7
     try clear c8
     try clear c8b0
     try clear c8b1
     try clear hcz10_0
     try clear hcz10_1
     try clear hcz10_2
     try clear hcz10_3
     try clear hcz10_4
     try clear hcz5_0
     try clear hcz5_1
     try clear hcz5_2
     try clear hcz5_3
     try clear hcz5_4
     try clear hcz6_0
     try clear hcz6_1
     try clear hcz6_2
     try clear hcz6_3
     try clear hcz6_4
     try clear hcz9_0
     try clear hcz9_1
     try clear hcz9_2
     try clear hcz9_3
     try clear hcz9_4
     try clear hfz10_0
     try clear hfz10_1
     try clear hfz10_2
     try clear hfz10_3
     try clear hfz10_4
     try clear hfz5_0
     try clear hfz5_1
     try clear hfz5_2
     try clear hfz5_3
     try clear hfz5_4
     try clear hfz6_0
     try clear hfz6_1
     try clear hfz6_2
     try clear hfz6_3
     try clear hfz6_4
     try clear hfz9_0
     try clear hfz9_1
     try clear hfz9_2
     try clear hfz9_3
     try clear hfz9_4
     try clear p2
     obtain ⟨x3_2, rfl, HA, HK2, BK114, HB⟩ := hrel
     cases gk with
     | zero => exact absurd HA.out (by simp [boltingref04_Row.l0])
     | succ k2 =>
      have H := HA.out
      clear HA
      simp only [boltingref04_Row.l0] at H
      by_cases c11 : x3_2 < (l0_4.length : Int)
      ·rw [if_pos c11] at H
       have c11b0 : decide (x3_2 < (l0_4.length : Int)) = true := decide_eq_true c11
       clear c11
       have H' := Aside0.mk H
       clear H
       have hcz12_0 : wr.cell? ⟨gb114, 0, none⟩ = some (.int .i64 a0_0) := (blk_cell BK114.out 0).trans rfl
       have hcz12_1 : wr.cell? ⟨gb114, 1, none⟩ = some (.int .i64 a0_1) := (blk_cell BK114.out 1).trans rfl
       have hcz12_2 : wr.cell? ⟨gb114, 2, none⟩ = some (.string a0_2) := (blk_cell BK114.out 2).trans rfl
       have hcz12_3 : wr.cell? ⟨gb114, 3, none⟩ = some (.string a0_3) := (blk_cell BK114.out 3).trans rfl
       have hcz12_4 : wr.cell? ⟨gb114, 4, none⟩ = some (.slice A0_4 l0_4.length c0_4) := (blk_cell BK114.out 4).trans rfl
       have hfz12_0 := blk_frozen BK114.out 0
       have hfz12_1 := blk_frozen BK114.out 1
       have hfz12_2 := blk_frozen BK114.out 2
       have hfz12_3 := blk_frozen BK114.out 3
       have hfz12_4 := blk_frozen BK114.out 4
       go_wp2
       repeat (go_quiet (fail); try go_wp2)
       go_loopg [4] k2 (fun kq v4 w' => ∃ (x4_3 : Int), v4 = .int .i64 x4_3 ∧ Aside0 (boltingref04_Row.l1 kq x3_2 x4_3 a0_0 a0_1 a0_2 a0_3 l0_4 = some r) ∧ Aside0 (kq ≤ k2) ∧ Aside0 (w'.heap[gb114]? = some (.cells #[.int .i64 a0_0, .int .i64 a0_1, .string a0_2, .string a0_3, (.slice A0_4 l0_4.length c0_4)] 35 (0, 0))) ∧ Aside0 (Below w.heap.size w w'))
       case atStart => exact ⟨(0), y4_, H', ⟨Nat.le_refl _⟩, ⟨by (with_reducible repeat (first | refine blk_drewN ?_ _ | refine blk_drew ?_ | refine blk_alloc ?_ _)); exact BK114.out⟩, ⟨(y17_ GE114.out)⟩⟩
       case round =>
        clear H'
        try clear c1
        try clear p2
        try clear c4
        try clear c4b0
        try clear c4b1
        try clear c7
        try clear c8
        try clear c8b0
        try clear c8b1
        try clear c11
        try clear c11b0
        try clear hcz10_0
        try clear hcz10_1
        try clear hcz10_2
        try clear hcz10_3
        try clear hcz10_4
        try clear hcz12_0
        try clear hcz12_1
        try clear hcz12_2
        try clear hcz12_3
        try clear hcz12_4
        try clear hcz5_0
        try clear hcz5_1
        try clear hcz5_2
        try clear hcz5_3
        try clear hcz5_4
        try clear hcz6_0
        try clear hcz6_1
        try clear hcz6_2
        try clear hcz6_3
        try clear hcz6_4
        try clear hcz9_0
        try clear hcz9_1
        try clear hcz9_2
        try clear hcz9_3
        try clear hcz9_4
        try clear hfz10_0
        try clear hfz10_1
        try clear hfz10_2
        try clear hfz10_3
        try clear hfz10_4
        try clear hfz12_0
        try clear hfz12_1
        try clear hfz12_2
        try clear hfz12_3
        try clear hfz12_4
        try clear hfz5_0
        try clear hfz5_1
        try clear hfz5_2
        try clear hfz5_3
        try clear hfz5_4
        try clear hfz6_0
        try clear hfz6_1
        try clear hfz6_2
        try clear hfz6_3
        try clear hfz6_4
        try clear hfz9_0
        try clear hfz9_1
        try clear hfz9_2
        try clear hfz9_3
        try clear hfz9_4
        try clear p2
        obtain ⟨x4_3, rfl, HA, HK3, BK114, HB⟩ := hrel
        cases gk with
        | zero => exact absurd HA.out (by simp [boltingref04_Row.l1])
        | succ k3 =>
         have H := HA.out
         clear HA
         simp only [boltingref04_Row.l1] at H
         by_cases c13 : x4_3 < x3_2
         ·rw [if_pos c13] at H
          have c13b0 : decide (x4_3 < x3_2) = true := decide_eq_true c13
          clear c13
          by_cases c14 : 0 ≤ x3_2
          rotate_left
          ·rw [if_neg c14] at H
           exact absurd H (by simp)
          rw [if_pos c14] at H
          have c14b0 : decide (0 ≤ x3_2) = true := decide_eq_true c14
          clear c14
          by_cases c15 : x3_2 < (l0_4.length : Int)
          rotate_left
          ·rw [if_neg c15] at H
           exact absurd H (by simp)
          rw [if_pos c15] at H
          have c15b0 : decide (x3_2 < (l0_4.length : Int)) = true := decide_eq_true c15
          clear c15
          by_cases c16 : 0 ≤ x4_3
          rotate_left
          ·rw [if_neg c16] at H
           exact absurd H (by simp)
          rw [if_pos c16] at H
          have c16b0 : decide (0 ≤ x4_3) = true := decide_eq_true c16
          clear c16
          by_cases c17 : x4_3 < (l0_4.length : Int)
          rotate_left
          ·rw [if_neg c17] at H
           exact absurd H (by simp)
          rw [if_pos c17] at H
          have c17b0 : decide (x4_3 < (l0_4.length : Int)) = true := decide_eq_true c17
          clear c17
          by_cases c18 : ((rd_T41 l0_4 x3_2).f0).toList = ((rd_T41 l0_4 x4_3).f0).toList
          ·rw [if_pos c18] at H
           have c18b0 : (((rd_T41 l0_4 x3_2).f0).toList == ((rd_T41 l0_4 x4_3).f0).toList) = true := beq_iff_eq.mpr c18
           have c18b1 : (((rd_T41 l0_4 x3_2).f0).toList != ((rd_T41 l0_4 x4_3).f0).toList) = false := bne_eq_false_iff_eq.mpr c18
           clear c18
           obtain rfl := Option.some.inj H
           have hcz19_0 : wr.cell? ⟨gb114, 0, none⟩ = some (.int .i64 a0_0) := (blk_cell BK114.out 0).trans rfl
           have hcz19_1 : wr.cell? ⟨gb114, 1, none⟩ = some (.int .i64 a0_1) := (blk_cell BK114.out 1).trans rfl
           have hcz19_2 : wr.cell? ⟨gb114, 2, none⟩ = some (.string a0_2) := (blk_cell BK114.out 2).trans rfl
           have hcz19_3 : wr.cell? ⟨gb114, 3, none⟩ = some (.string a0_3) := (blk_cell BK114.out 3).trans rfl
           have hcz19_4 : wr.cell? ⟨gb114, 4, none⟩ = some (.slice A0_4 l0_4.length c0_4) := (blk_cell BK114.out 4).trans rfl
           have hfz19_0 := blk_frozen BK114.out 0
           have hfz19_1 := blk_frozen BK114.out 1
           have hfz19_2 := blk_frozen BK114.out 2
           have hfz19_3 := blk_frozen BK114.out 3
           have hfz19_4 := blk_frozen BK114.out 4
           have p115 : 0 ≤ (x3_2 : Int) := of_decide_eq_true y2_
           have q115 : x3_2 < (l0_4.length : Int) := of_decide_eq_true y2_
           obtain ⟨ad115, e115, hx115_0, hx115_1⟩ := at_T41 HR0_4.out x3_2 p115 q115
           cases e115
           replace hx115_0 := (HB.out.cell (World.block_lt_of_cell? w _ hx115_0)).trans hx115_0
           replace hx115_1 := (HB.out.cell (World.block_lt_of_cell? w _ hx115_1)).trans hx115_1
           replace p115 := eq_true p115
           replace q115 := eq_true q115
           have p116 : 0 ≤ (x4_3 : Int) := of_decide_eq_true y2_
           have q116 : x4_3 < (l0_4.length : Int) := of_decide_eq_true y2_
           obtain ⟨ad116, e116, hx116_0, hx116_1⟩ := at_T41 HR0_4.out x4_3 p116 q116
           obtain rfl : ad115 = ad116 := (by injection e116)
           replace hx116_0 := (HB.out.cell (World.block_lt_of_cell? w _ hx116_0)).trans hx116_0
           replace hx116_1 := (HB.out.cell (World.block_lt_of_cell? w _ hx116_1)).trans hx116_1
           replace p116 := eq_true p116
           replace q116 := eq_true q116
           go_wp2
           repeat (go_quiet (fail); try go_wp2)
           go_ret
           exact ⟨y11_, (y17_ GE114.out)⟩
          ·rw [if_neg c18] at H
           have c18b0 : (((rd_T41 l0_4 x3_2).f0).toList == ((rd_T41 l0_4 x4_3).f0).toList) = false := beq_eq_false_iff_ne.mpr c18
           have c18b1 : (((rd_T41 l0_4 x3_2).f0).toList != ((rd_T41 l0_4 x4_3).f0).toList) = true := bne_iff_ne.mpr c18
           have H' := Aside0.mk H
           clear H
           have hcz20_0 : wr.cell? ⟨gb114, 0, none⟩ = some (.int .i64 a0_0) := (blk_cell BK114.out 0).trans rfl
           have hcz20_1 : wr.cell? ⟨gb114, 1, none⟩ = some (.int .i64 a0_1) := (blk_cell BK114.out 1).trans rfl
           have hcz20_2 : wr.cell? ⟨gb114, 2, none⟩ = some (.string a0_2) := (blk_cell BK114.out 2).trans rfl
           have hcz20_3 : wr.cell? ⟨gb114, 3, none⟩ = some (.string a0_3) := (blk_cell BK114.out 3).trans rfl
           have hcz20_4 : wr.cell? ⟨gb114, 4, none⟩ = some (.slice A0_4 l0_4.length c0_4) := (blk_cell BK114.out 4).trans rfl
           have hfz20_0 := blk_frozen BK114.out 0
           have hfz20_1 := blk_frozen BK114.out 1
           have hfz20_2 := blk_frozen BK114.out 2
           have hfz20_3 := blk_frozen BK114.out 3
           have hfz20_4 := blk_frozen BK114.out 4
           have p115 : 0 ≤ (x3_2 : Int) := of_decide_eq_true y2_
           have q115 : x3_2 < (l0_4.length : Int) := of_decide_eq_true y2_
           obtain ⟨ad115, e115, hx115_0, hx115_1⟩ := at_T41 HR0_4.out x3_2 p115 q115
           cases e115
           replace hx115_0 := (HB.out.cell (World.block_lt_of_cell? w _ hx115_0)).trans hx115_0
           replace hx115_1 := (HB.out.cell (World.block_lt_of_cell? w _ hx115_1)).trans hx115_1
           replace p115 := eq_true p115
           replace q115 := eq_true q115
           have p116 : 0 ≤ (x4_3 : Int) := of_decide_eq_true y2_
           have q116 : x4_3 < (l0_4.length : Int) := of_decide_eq_true y2_
           obtain ⟨ad116, e116, hx116_0, hx116_1⟩ := at_T41 HR0_4.out x4_3 p116 q116
           obtain rfl : ad115 = ad116 := (by injection e116)
           replace hx116_0 := (HB.out.cell (World.block_lt_of_cell? w _ hx116_0)).trans hx116_0
           replace hx116_1 := (HB.out.cell (World.block_lt_of_cell? w _ hx116_1)).trans hx116_1
           replace p116 := eq_true p116
           replace q116 := eq_true q116
           go_wp2
           repeat (go_quiet (fail); try go_wp2)
           go_roundg k3
           case measure => have := HJ1.out; have := HK2.out; have := HK3.out; omega
           case rel => exact ⟨(wrap64 (x4_3 + 1)), y4_, H', ⟨by have := HJ1.out; have := HK2.out; have := HK3.out; omega⟩, ⟨by (with_reducible repeat (first | refine blk_drewN ?_ _ | refine blk_drew ?_ | refine blk_alloc ?_ _)); exact BK114.out⟩, ⟨(y17_ GE114.out)⟩⟩
         ·rw [if_neg c13] at H
          have c13b0 : decide (x4_3 < x3_2) = false := decide_eq_false c13
          clear c13
          have H' := Aside0.mk H
          clear H
          go_wp2
          repeat (go_quiet (fail); try go_wp2)
          go_roundg k3
          case measure => have := HJ1.out; have := HK2.out; have := HK3.out; omega
          case rel => exact ⟨(wrap64 (x3_2 + 1)), y4_, H', ⟨by have := HJ1.out; have := HK2.out; have := HK3.out; omega⟩, ⟨by (with_reducible repeat (first | refine blk_drewN ?_ _ | refine blk_drew ?_ | refine blk_alloc ?_ _)); exact BK114.out⟩, ⟨(y17_ GE114.out)⟩⟩
      ·rw [if_neg c11] at H
       have c11b0 : decide (x3_2 < (l0_4.length : Int)) = false := decide_eq_false c11
       clear c11
       by_cases c21 : a0_1 = 0
       ·rw [if_pos c21] at H
        have c21b0 : (a0_1 == 0) = true := beq_iff_eq.mpr c21
        have c21b1 : (a0_1 != 0) = false := bne_eq_false_iff_eq.mpr c21
        clear c21
        by_cases c22 : a0_2.toList = ([] : List UInt8)
        ·rw [if_pos c22] at H
         have c22b0 : (a0_2.toList == ([] : List UInt8)) = true := beq_iff_eq.mpr c22
         have c22b1 : (a0_2.toList != ([] : List UInt8)) = false := bne_eq_false_iff_eq.mpr c22
         clear c22
         obtain rfl := Option.some.inj H
         have hcz23_0 : wr.cell? ⟨gb114, 0, none⟩ = some (.int .i64 a0_0) := (blk_cell BK114.out 0).trans rfl
         have hcz23_1 : wr.cell? ⟨gb114, 1, none⟩ = some (.int .i64 a0_1) := (blk_cell BK114.out 1).trans rfl
         have hcz23_2 : wr.cell? ⟨gb114, 2, none⟩ = some (.string a0_2) := (blk_cell BK114.out 2).trans rfl
         have hcz23_3 : wr.cell? ⟨gb114, 3, none⟩ = some (.string a0_3) := (blk_cell BK114.out 3).trans rfl
         have hcz23_4 : wr.cell? ⟨gb114, 4, none⟩ = some (.slice A0_4 l0_4.length c0_4) := (blk_cell BK114.out 4).trans rfl
         have hfz23_0 := blk_frozen BK114.out 0
         have hfz23_1 := blk_frozen BK114.out 1
         have hfz23_2 := blk_frozen BK114.out 2
         have hfz23_3 := blk_frozen BK114.out 3
         have hfz23_4 := blk_frozen BK114.out 4
         go_wp2
         repeat (go_quiet (fail); try go_wp2)
         go_ret
         exact ⟨y11_, (y17_ GE114.out)⟩
        ·rw [if_neg c22] at H
         have c22b0 : (a0_2.toList == ([] : List UInt8)) = false := beq_eq_false_iff_ne.mpr c22
         have c22b1 : (a0_2.toList != ([] : List UInt8)) = true := bne_iff_ne.mpr c22
         obtain rfl := Option.some.inj H
         have hcz24_0 : wr.cell? ⟨gb114, 0, none⟩ = some (.int .i64 a0_0) := (blk_cell BK114.out 0).trans rfl
         have hcz24_1 : wr.cell? ⟨gb114, 1, none⟩ = some (.int .i64 a0_1) := (blk_cell BK114.out 1).trans rfl
         have hcz24_2 : wr.cell? ⟨gb114, 2, none⟩ = some (.string a0_2) := (blk_cell BK114.out 2).trans rfl
         have hcz24_3 : wr.cell? ⟨gb114, 3, none⟩ = some (.string a0_3) := (blk_cell BK114.out 3).trans rfl
         have hcz24_4 : wr.cell? ⟨gb114, 4, none⟩ = some (.slice A0_4 l0_4.length c0_4) := (blk_cell BK114.out 4).trans rfl
         have hfz24_0 := blk_frozen BK114.out 0
         have hfz24_1 := blk_frozen BK114.out 1
         have hfz24_2 := blk_frozen BK114.out 2
         have hfz24_3 := blk_frozen BK114.out 3
         have hfz24_4 := blk_frozen BK114.out 4
         go_wp2
         repeat (go_quiet (fail); try go_wp2)
         go_ret
         exact ⟨y11_, (y17_ GE114.out)⟩
       ·rw [if_neg c21] at H
        have c21b0 : (a0_1 == 0) = false := beq_eq_false_iff_ne.mpr c21
        have c21b1 : (a0_1 != 0) = true := bne_iff_ne.mpr c21
        obtain rfl := Option.some.inj H
        have hcz25_0 : wr.cell? ⟨gb114, 0, none⟩ = some (.int .i64 a0_0) := (blk_cell BK114.out 0).trans rfl
        have hcz25_1 : wr.cell? ⟨gb114, 1, none⟩ = some (.int .i64 a0_1) := (blk_cell BK114.out 1).trans rfl
        have hcz25_2 : wr.cell? ⟨gb114, 2, none⟩ = some (.string a0_2) := (blk_cell BK114.out 2).trans rfl
        have hcz25_3 : wr.cell? ⟨gb114, 3, none⟩ = some (.string a0_3) := (blk_cell BK114.out 3).trans rfl
        have hcz25_4 : wr.cell? ⟨gb114, 4, none⟩ = some (.slice A0_4 l0_4.length c0_4) := (blk_cell BK114.out 4).trans rfl
        have hfz25_0 := blk_frozen BK114.out 0
        have hfz25_1 := blk_frozen BK114.out 1
        have hfz25_2 := blk_frozen BK114.out 2
        have hfz25_3 := blk_frozen BK114.out 3
        have hfz25_4 := blk_frozen BK114.out 4
        go_wp2
        repeat (go_quiet (fail); try go_wp2)
        go_ret
        exact ⟨y11_, (y17_ GE114.out)⟩
end Go.Proofs.YtpnhjipaeggcpaaDoor.X
end
section
namespace Go.Proofs.YtpnhjipaeggcpaaDoor.X
open Go.RowKit Go.Proofs.YtpnhjipaeggcpaaDoorW.PrintWords Go.Proofs.YtpnhjipaeggcpaaDoorW.PrintLast Go.Proofs.YtpnhjipaeggcpaaDoorW.PrintMore
attribute [local go_sem] max2_int min2_int max_two min_two max_three min_three max_four min_four
mutual
def boltingref04_Right.l0 : Nat → List (S35) → Int → Option (Bool)
 | 0, _, _ => none
 | k + 1, x0, x3 => if x3 < (x0.length : Int) then (if 0 ≤ x3 then ((boltingref04_Row.f k ((rd_T35 x0 x3).f0) ((rd_T35 x0 x3).f1) ((rd_T35 x0 x3).f2) ((rd_T35 x0 x3).f3) ((rd_T35 x0 x3).f4)).bind fun t119 => (if t119 = true then (if ((rd_T35 x0 x3).f0) < 0 then (boltingref04_Right.j1 k x0 x3 ((rd_T35 x0 x3).f0) true) else (if x3 = 0 then (boltingref04_Right.j1 k x0 x3 ((rd_T35 x0 x3).f0) (((rd_T35 x0 x3).f0) != 0)) else (boltingref04_Right.j1 k x0 x3 ((rd_T35 x0 x3).f0) false))) else (boltingref04_Right.j1 k x0 x3 ((rd_T35 x0 x3).f0) true))) else (none)) else (some true)
def boltingref04_Right.j1 : Nat → List (S35) → Int → Int → Bool → Option (Bool)
 | 0, _, _, _, _ => none
 | k + 1, x0, x3, x4, x33 => if x33 = true then (some false) else (if x3 > 0 then (if 0 ≤ (wrap64 (x3 - 1)) then (if (wrap64 (x3 - 1)) < (x0.length : Int) then (if x4 > (wrap64 (((rd_T35 x0 (wrap64 (x3 - 1))).f0) + 1)) then (some false) else (if x4 = (wrap64 (((rd_T35 x0 (wrap64 (x3 - 1))).f0) + 1)) then (if ((rd_T35 x0 (wrap64 (x3 - 1))).f1) = 0 then (boltingref04_Right.l0 k x0 (wrap64 (x3 + 1))) else (some false)) else (boltingref04_Right.l0 k x0 (wrap64 (x3 + 1))))) else (none)) else (none)) else (boltingref04_Right.l0 k x0 (wrap64 (x3 + 1))))
end
def boltingref04_Right.f (k : Nat) (l0 : List (S35)) : Option (Bool) := boltingref04_Right.l0 k l0 0
set_option maxHeartbeats 8000000 in
set_option maxRecDepth 100000 in
theorem boltingref04_Right.calls (k : Nat) (A0 : Option Addr) (c0 : Nat) (l0 : List (S35)) (r : Bool) (w : World) (hr0 : Kd.C k35 w A0 l0.length l0) (hc0 : l0.length ≤ c0) (h : boltingref04_Right.f k l0 = some r) :
  Calls Tryd.prog 7 #[.slice A0 l0.length c0] w fun e w' => e = .returned (.bool r) ∧ Below w.heap.size w w' := by
 have hu35 := Tryd.underlying35
 have HR0 := Aside0.mk hr0
 have HC0 := Aside0.mk hc0
 clear hr0 hc0
 have HB := Aside0.mk (Below.refl w.heap.size w)
 have H : (boltingref04_Right.l0 k l0 0) = some r := h
 clear h
 have H' := Aside0.mk H
 clear H
 go_enter Tryd.func7, Tryd.ntmps7
 go_wp2
 go_loopg [3] k (fun kq v3 w' => ∃ (x3_1 : Int), v3 = .int .i64 x3_1 ∧ Aside0 (boltingref04_Right.l0 kq l0 x3_1 = some r) ∧ Aside0 (kq ≤ k) ∧ Aside0 (Below w.heap.size w w'))
 case atStart => exact ⟨(0), y4_, H', ⟨Nat.le_refl _⟩, ⟨y13_⟩⟩
 case round =>
  clear H'
  obtain ⟨x3_1, rfl, HA, HK1, HB⟩ := hrel
  cases gk with
  | zero => exact absurd HA.out (by simp [boltingref04_Right.l0])
  | succ k1 =>
   have H := HA.out
   clear HA
   simp only [boltingref04_Right.l0] at H
   by_cases c2 : x3_1 < (l0.length : Int)
   ·rw [if_pos c2] at H
    have c2b0 : decide (x3_1 < (l0.length : Int)) = true := decide_eq_true c2
    clear c2
    by_cases c3 : 0 ≤ x3_1
    rotate_left
    ·rw [if_neg c3] at H
     exact absurd H (by simp)
    rw [if_pos c3] at H
    have c3b0 : decide (0 ≤ x3_1) = true := decide_eq_true c3
    clear c3
    have HC4 := Aside0.mk H
    clear H
    have p117 : 0 ≤ (x3_1 : Int) := of_decide_eq_true y2_
    have q117 : x3_1 < (l0.length : Int) := of_decide_eq_true y2_
    obtain ⟨ad117, A117_4, c117_4, e117, hx117_0, hx117_1, hx117_2, hx117_3, hx117_4, hl117_4, hi117_4⟩ := at_T35 HR0.out x3_1 p117 q117
    cases e117
    replace hx117_0 := (HB.out.cell (World.block_lt_of_cell? w _ hx117_0)).trans hx117_0
    replace hx117_1 := (HB.out.cell (World.block_lt_of_cell? w _ hx117_1)).trans hx117_1
    replace hx117_2 := (HB.out.cell (World.block_lt_of_cell? w _ hx117_2)).trans hx117_2
    replace hx117_3 := (HB.out.cell (World.block_lt_of_cell? w _ hx117_3)).trans hx117_3
    replace hx117_4 := (HB.out.cell (World.block_lt_of_cell? w _ hx117_4)).trans hx117_4
    have HR117_4 := Aside0.mk hi117_4
    have HC117_4 := Aside0.mk hl117_4
    clear hi117_4 hl117_4
    replace p117 := eq_true p117
    replace q117 := eq_true q117
    go_upto_region 5 with (fail)
    go_cut [33] (fun v33 wc => ∃ (kq : Nat) (x33_3 : Bool), v33 = .bool x33_3 ∧ Aside0 (boltingref04_Right.j1 kq l0 x3_1 ((rd_T35 l0 x3_1).f0) x33_3 = some r) ∧ Aside0 (kq ≤ k1) ∧ Aside0 (Below w.heap.size w wc))
    case first =>
     have H := HC4.out
     clear HC4
     replace H := Option.bind_eq_some_iff.mp H
     obtain ⟨t119, A50, H⟩ := H
     have A5 := Aside0.mk A50
     clear A50
     by_cases c6 : t119 = true
     ·subst c6
      rw [if_pos rfl] at H
      by_cases c7 : ((rd_T35 l0 x3_1).f0) < 0
      ·rw [if_pos c7] at H
       have c7b0 : decide (((rd_T35 l0 x3_1).f0) < 0) = true := decide_eq_true c7
       clear c7
       (first | rw [c7b0] | (simp only [i64_w, i32_w]; rw [c7b0]) | skip)
       have H' := Aside0.mk H
       clear H
       have p118 : 0 ≤ (x3_1 : Int) := of_decide_eq_true y2_
       have q118 : x3_1 < (l0.length : Int) := of_decide_eq_true y2_
       obtain ⟨ad118, A118_4, c118_4, e118, hx118_0, hx118_1, hx118_2, hx118_3, hx118_4, hl118_4, hi118_4⟩ := at_T35 HR0.out x3_1 p118 q118
       obtain rfl : ad117 = ad118 := (by injection e118)
       replace hx118_0 := (HB.out.cell (World.block_lt_of_cell? w _ hx118_0)).trans hx118_0
       replace hx118_1 := (HB.out.cell (World.block_lt_of_cell? w _ hx118_1)).trans hx118_1
       replace hx118_2 := (HB.out.cell (World.block_lt_of_cell? w _ hx118_2)).trans hx118_2
       replace hx118_3 := (HB.out.cell (World.block_lt_of_cell? w _ hx118_3)).trans hx118_3
       replace hx118_4 := (HB.out.cell (World.block_lt_of_cell? w _ hx118_4)).trans hx118_4
       try (have e_ := Option.some.inj (hx117_4.symm.trans hx118_4); injection e_ with ea_ eb_ ec_; rw [ea_, ec_] at hx117_4; clear ea_ eb_ ec_)
       have HR118_4 := Aside0.mk hi118_4
       have HC118_4 := Aside0.mk hl118_4
       clear hi118_4 hl118_4
       replace p118 := eq_true p118
       replace q118 := eq_true q118
       go_wp2_with (first | ((with_reducible refine gate_callee (f := 18) rfl ?_); refine goesL_ (some 20) rfl rfl Tryd.func18 (by kernel_rfl) rfl #[.agg #[.int .i64 ((rd_T35 l0 x3_1).f0), .int .i64 ((rd_T35 l0 x3_1).f1), .string ((rd_T35 l0 x3_1).f2), .string ((rd_T35 l0 x3_1).f3), .slice A118_4 ((rd_T35 l0 x3_1).f4).length c118_4]] rfl y14_ ?_; (with_reducible refine (boltingref04_Row.calls k1 ((rd_T35 l0 x3_1).f0) ((rd_T35 l0 x3_1).f1) ((rd_T35 l0 x3_1).f2) ((rd_T35 l0 x3_1).f3) _ _ ((rd_T35 l0 x3_1).f4) true _ ?side1 ?side2 A5.out).mono ?_); (case side1 => repeat (first | exact (Kd.C_below HR118_4.out HB.out) | (with_reducible refine Kd.C_alloc ?_ _) | (with_reducible refine Kd.C_drewN ?_ _) | (with_reducible refine Kd.C_drew ?_))); (case side2 => exact HC118_4.out); rintro e w8 ⟨rfl, hb⟩; refine ⟨_, rfl, ?_⟩; have n0_ := Aside0.mk (below_step y13_ hb); clear HB; have HB := n0_; clear n0_; (try clear hb); (try clear hb2); (try clear hk); (try clear hi)))
       go_meet
       case rel => exact ⟨_, (true), y4_, H', ⟨by have := HK1.out; first | omega | exact Nat.le_refl _⟩, ⟨y13_⟩⟩
      ·rw [if_neg c7] at H
       have c7b0 : decide (((rd_T35 l0 x3_1).f0) < 0) = false := decide_eq_false c7
       clear c7
       (first | rw [c7b0] | (simp only [i64_w, i32_w]; rw [c7b0]) | skip)
       by_cases c9 : x3_1 = 0
       ·rw [if_pos c9] at H
        have c9b0 : (x3_1 == 0) = true := beq_iff_eq.mpr c9
        have c9b1 : (x3_1 != 0) = false := bne_eq_false_iff_eq.mpr c9
        clear c9
        have H' := Aside0.mk H
        clear H
        have p118 : 0 ≤ (x3_1 : Int) := of_decide_eq_true y2_
        have q118 : x3_1 < (l0.length : Int) := of_decide_eq_true y2_
        obtain ⟨ad118, A118_4, c118_4, e118, hx118_0, hx118_1, hx118_2, hx118_3, hx118_4, hl118_4, hi118_4⟩ := at_T35 HR0.out x3_1 p118 q118
        obtain rfl : ad117 = ad118 := (by injection e118)
        replace hx118_0 := (HB.out.cell (World.block_lt_of_cell? w _ hx118_0)).trans hx118_0
        replace hx118_1 := (HB.out.cell (World.block_lt_of_cell? w _ hx118_1)).trans hx118_1
        replace hx118_2 := (HB.out.cell (World.block_lt_of_cell? w _ hx118_2)).trans hx118_2
        replace hx118_3 := (HB.out.cell (World.block_lt_of_cell? w _ hx118_3)).trans hx118_3
        replace hx118_4 := (HB.out.cell (World.block_lt_of_cell? w _ hx118_4)).trans hx118_4
        try (have e_ := Option.some.inj (hx117_4.symm.trans hx118_4); injection e_ with ea_ eb_ ec_; rw [ea_, ec_] at hx117_4; clear ea_ eb_ ec_)
        have HR118_4 := Aside0.mk hi118_4
        have HC118_4 := Aside0.mk hl118_4
        clear hi118_4 hl118_4
        replace p118 := eq_true p118
        replace q118 := eq_true q118
        go_wp2_with (first | ((with_reducible refine gate_callee (f := 18) rfl ?_); refine goesL_ (some 20) rfl rfl Tryd.func18 (by kernel_rfl) rfl #[.agg #[.int .i64 ((rd_T35 l0 x3_1).f0), .int .i64 ((rd_T35 l0 x3_1).f1), .string ((rd_T35 l0 x3_1).f2), .string ((rd_T35 l0 x3_1).f3), .slice A118_4 ((rd_T35 l0 x3_1).f4).length c118_4]] rfl y14_ ?_; (with_reducible refine (boltingref04_Row.calls k1 ((rd_T35 l0 x3_1).f0) ((rd_T35 l0 x3_1).f1) ((rd_T35 l0 x3_1).f2) ((rd_T35 l0 x3_1).f3) _ _ ((rd_T35 l0 x3_1).f4) true _ ?side1 ?side2 A5.out).mono ?_); (case side1 => repeat (first | exact (Kd.C_below HR118_4.out HB.out) | (with_reducible refine Kd.C_alloc ?_ _) | (with_reducible refine Kd.C_drewN ?_ _) | (with_reducible refine Kd.C_drew ?_))); (case side2 => exact HC118_4.out); rintro e w10 ⟨rfl, hb⟩; refine ⟨_, rfl, ?_⟩; have n0_ := Aside0.mk (below_step y13_ hb); clear HB; have HB := n0_; clear n0_; (try clear hb); (try clear hb2); (try clear hk); (try clear hi)))
        go_meet
        case rel => exact ⟨_, ((((rd_T35 l0 x3_1).f0) != 0)), y4_, H', ⟨by have := HK1.out; first | omega | exact Nat.le_refl _⟩, ⟨y13_⟩⟩
       ·rw [if_neg c9] at H
        have c9b0 : (x3_1 == 0) = false := beq_eq_false_iff_ne.mpr c9
        have c9b1 : (x3_1 != 0) = true := bne_iff_ne.mpr c9
        have H' := Aside0.mk H
        clear H
        have p118 : 0 ≤ (x3_1 : Int) := of_decide_eq_true y2_
        have q118 : x3_1 < (l0.length : Int) := of_decide_eq_true y2_
        obtain ⟨ad118, A118_4, c118_4, e118, hx118_0, hx118_1, hx118_2, hx118_3, hx118_4, hl118_4, hi118_4⟩ := at_T35 HR0.out x3_1 p118 q118
        obtain rfl : ad117 = ad118 := (by injection e118)
        replace hx118_0 := (HB.out.cell (World.block_lt_of_cell? w _ hx118_0)).trans hx118_0
        replace hx118_1 := (HB.out.cell (World.block_lt_of_cell? w _ hx118_1)).trans hx118_1
        replace hx118_2 := (HB.out.cell (World.block_lt_of_cell? w _ hx118_2)).trans hx118_2
        replace hx118_3 := (HB.out.cell (World.block_lt_of_cell? w _ hx118_3)).trans hx118_3
        replace hx118_4 := (HB.out.cell (World.block_lt_of_cell? w _ hx118_4)).trans hx118_4
        try (have e_ := Option.some.inj (hx117_4.symm.trans hx118_4); injection e_ with ea_ eb_ ec_; rw [ea_, ec_] at hx117_4; clear ea_ eb_ ec_)
        have HR118_4 := Aside0.mk hi118_4
        have HC118_4 := Aside0.mk hl118_4
        clear hi118_4 hl118_4
        replace p118 := eq_true p118
        replace q118 := eq_true q118
        go_wp2_with (first | ((with_reducible refine gate_callee (f := 18) rfl ?_); refine goesL_ (some 20) rfl rfl Tryd.func18 (by kernel_rfl) rfl #[.agg #[.int .i64 ((rd_T35 l0 x3_1).f0), .int .i64 ((rd_T35 l0 x3_1).f1), .string ((rd_T35 l0 x3_1).f2), .string ((rd_T35 l0 x3_1).f3), .slice A118_4 ((rd_T35 l0 x3_1).f4).length c118_4]] rfl y14_ ?_; (with_reducible refine (boltingref04_Row.calls k1 ((rd_T35 l0 x3_1).f0) ((rd_T35 l0 x3_1).f1) ((rd_T35 l0 x3_1).f2) ((rd_T35 l0 x3_1).f3) _ _ ((rd_T35 l0 x3_1).f4) true _ ?side1 ?side2 A5.out).mono ?_); (case side1 => repeat (first | exact (Kd.C_below HR118_4.out HB.out) | (with_reducible refine Kd.C_alloc ?_ _) | (with_reducible refine Kd.C_drewN ?_ _) | (with_reducible refine Kd.C_drew ?_))); (case side2 => exact HC118_4.out); rintro e w11 ⟨rfl, hb⟩; refine ⟨_, rfl, ?_⟩; have n0_ := Aside0.mk (below_step y13_ hb); clear HB; have HB := n0_; clear n0_; (try clear hb); (try clear hb2); (try clear hk); (try clear hi)))
        go_meet
        case rel => exact ⟨_, (false), y4_, H', ⟨by have := HK1.out; first | omega | exact Nat.le_refl _⟩, ⟨y13_⟩⟩
     ·replace c6 := Bool.eq_false_iff.mpr c6
      subst c6
      rw [if_neg (show ¬ (false = true) by decide)] at H
      have H' := Aside0.mk H
      clear H
      have p118 : 0 ≤ (x3_1 : Int) := of_decide_eq_true y2_
      have q118 : x3_1 < (l0.length : Int) := of_decide_eq_true y2_
      obtain ⟨ad118, A118_4, c118_4, e118, hx118_0, hx118_1, hx118_2, hx118_3, hx118_4, hl118_4, hi118_4⟩ := at_T35 HR0.out x3_1 p118 q118
      obtain rfl : ad117 = ad118 := (by injection e118)
      replace hx118_0 := (HB.out.cell (World.block_lt_of_cell? w _ hx118_0)).trans hx118_0
      replace hx118_1 := (HB.out.cell (World.block_lt_of_cell? w _ hx118_1)).trans hx118_1
      replace hx118_2 := (HB.out.cell (World.block_lt_of_cell? w _ hx118_2)).trans hx118_2
      replace hx118_3 := (HB.out.cell (World.block_lt_of_cell? w _ hx118_3)).trans hx118_3
      replace hx118_4 := (HB.out.cell (World.block_lt_of_cell? w _ hx118_4)).trans hx118_4
      try (have e_ := Option.some.inj (hx117_4.symm.trans hx118_4); injection e_ with ea_ eb_ ec_; rw [ea_, ec_] at hx117_4; clear ea_ eb_ ec_)
      have HR118_4 := Aside0.mk hi118_4
      have HC118_4 := Aside0.mk hl118_4
      clear hi118_4 hl118_4
      replace p118 := eq_true p118
      replace q118 := eq_true q118
      go_wp2_with (first | ((with_reducible refine gate_callee (f := 18) rfl ?_); refine goesL_ (some 20) rfl rfl Tryd.func18 (by kernel_rfl) rfl #[.agg #[.int .i64 ((rd_T35 l0 x3_1).f0), .int .i64 ((rd_T35 l0 x3_1).f1), .string ((rd_T35 l0 x3_1).f2), .string ((rd_T35 l0 x3_1).f3), .slice A118_4 ((rd_T35 l0 x3_1).f4).length c118_4]] rfl y14_ ?_; (with_reducible refine (boltingref04_Row.calls k1 ((rd_T35 l0 x3_1).f0) ((rd_T35 l0 x3_1).f1) ((rd_T35 l0 x3_1).f2) ((rd_T35 l0 x3_1).f3) _ _ ((rd_T35 l0 x3_1).f4) false _ ?side1 ?side2 A5.out).mono ?_); (case side1 => repeat (first | exact (Kd.C_below HR118_4.out HB.out) | (with_reducible refine Kd.C_alloc ?_ _) | (with_reducible refine Kd.C_drewN ?_ _) | (with_reducible refine Kd.C_drew ?_))); (case side2 => exact HC118_4.out); rintro e w12 ⟨rfl, hb⟩; refine ⟨_, rfl, ?_⟩; have n0_ := Aside0.mk (below_step y13_ hb); clear HB; have HB := n0_; clear n0_; (try clear hb); (try clear hb2); (try clear hk); (try clear hi)))
      go_meet
      case rel => exact ⟨_, (true), y4_, H', ⟨by have := HK1.out; first | omega | exact Nat.le_refl _⟩, ⟨y13_⟩⟩
    case rest =>
     clear HC4
     try clear c1
     try clear p1
     try clear q1
     try clear hx1
     try clear c2
     try clear c2b0
     try clear p2
     try clear c3
     try clear c3b0
     try clear c6
     try clear c7
     try clear c7b0
     try clear c9
     try clear c9b0
     try clear c9b1
     try clear c11
     try clear p11
     try clear q11
     try clear hx11
     try clear hx117_0
     try clear hx117_1
     try clear hx117_2
     try clear hx117_3
     try clear hx117_4
     try clear hx118_0
     try clear hx118_1
     try clear hx118_2
     try clear hx118_3
     try clear hx118_4
     try clear p117
     try clear p118
     try clear q117
     try clear q118
     obtain ⟨kq, x33_3, rfl, HA, HJ3, HB⟩ := hcut
     cases kq with
     | zero => exact absurd HA.out (by simp [boltingref04_Right.j1])
     | succ kj3 =>
      have H := HA.out
      clear HA
      simp only [boltingref04_Right.j1] at H
      by_cases c13 : x33_3 = true
      ·subst c13
       rw [if_pos rfl] at H
       obtain rfl := Option.some.inj H
       go_wp2
       go_ret
       exact ⟨y11_, y13_⟩
      ·replace c13 := Bool.eq_false_iff.mpr c13
       subst c13
       rw [if_neg (show ¬ (false = true) by decide)] at H
       by_cases c14 : x3_1 > 0
       ·rw [if_pos c14] at H
        have c14b0 : decide (0 < x3_1) = true := decide_eq_true c14
        clear c14
        obtain ⟨ji15, hji15⟩ : ∃ j_ : Int, (wrap64 (x3_1 - 1)) = j_ := ⟨_, rfl⟩
        replace H : (if 0 ≤ (ji15) then (if (ji15) < (l0.length : Int) then (if ((rd_T35 l0 x3_1).f0) > (wrap64 (((rd_T35 l0 (ji15)).f0) + 1)) then (some false) else (if ((rd_T35 l0 x3_1).f0) = (wrap64 (((rd_T35 l0 (ji15)).f0) + 1)) then (if ((rd_T35 l0 (ji15)).f1) = 0 then (boltingref04_Right.l0 kj3 l0 (wrap64 (x3_1 + 1))) else (some false)) else (boltingref04_Right.l0 kj3 l0 (wrap64 (x3_1 + 1))))) else (none)) else (none)) = some r := by first | (rw [hji15] at H; exact H) | (simp only [hji15] at H ⊢; exact H)
        have hji15w : (IntKind.i64.wrap (x3_1 - 1)) = ji15 := (i64_w _).trans hji15
        by_cases c16 : 0 ≤ (ji15)
        rotate_left
        ·rw [if_neg c16] at H
         exact absurd H (by simp)
        rw [if_pos c16] at H
        have c16b0 : decide (0 ≤ (ji15)) = true := decide_eq_true c16
        clear c16
        by_cases c17 : (ji15) < (l0.length : Int)
        rotate_left
        ·rw [if_neg c17] at H
         exact absurd H (by simp)
        rw [if_pos c17] at H
        have c17b0 : decide ((ji15) < (l0.length : Int)) = true := decide_eq_true c17
        clear c17
        by_cases c18 : ((rd_T35 l0 x3_1).f0) > (wrap64 (((rd_T35 l0 (ji15)).f0) + 1))
        ·rw [if_pos c18] at H
         have c18b0 : decide ((wrap64 (((rd_T35 l0 (ji15)).f0) + 1)) < ((rd_T35 l0 x3_1).f0)) = true := decide_eq_true c18
         clear c18
         obtain rfl := Option.some.inj H
         have p120 : 0 ≤ ((ji15) : Int) := of_decide_eq_true y2_
         have q120 : (ji15) < (l0.length : Int) := of_decide_eq_true y2_
         obtain ⟨ad120, A120_4, c120_4, e120, hx120_0, hx120_1, hx120_2, hx120_3, hx120_4, hl120_4, hi120_4⟩ := at_T35 HR0.out (ji15) p120 q120
         obtain rfl : ad117 = ad120 := (by injection e120)
         replace hx120_0 := (HB.out.cell (World.block_lt_of_cell? w _ hx120_0)).trans hx120_0
         replace hx120_1 := (HB.out.cell (World.block_lt_of_cell? w _ hx120_1)).trans hx120_1
         replace hx120_2 := (HB.out.cell (World.block_lt_of_cell? w _ hx120_2)).trans hx120_2
         replace hx120_3 := (HB.out.cell (World.block_lt_of_cell? w _ hx120_3)).trans hx120_3
         replace hx120_4 := (HB.out.cell (World.block_lt_of_cell? w _ hx120_4)).trans hx120_4
         try (have e_ := Option.some.inj (hx117_4.symm.trans hx120_4); injection e_ with ea_ eb_ ec_; rw [ea_, ec_] at hx117_4; clear ea_ eb_ ec_)
         have HR120_4 := Aside0.mk hi120_4
         have HC120_4 := Aside0.mk hl120_4
         clear hi120_4 hl120_4
         replace p120 := eq_true p120
         replace q120 := eq_true q120
         go_wp2
         go_ret
         exact ⟨y21_, y13_⟩
        ·rw [if_neg c18] at H
         have c18b0 : decide ((wrap64 (((rd_T35 l0 (ji15)).f0) + 1)) < ((rd_T35 l0 x3_1).f0)) = false := decide_eq_false c18
         clear c18
         by_cases c19 : ((rd_T35 l0 x3_1).f0) = (wrap64 (((rd_T35 l0 (ji15)).f0) + 1))
         ·rw [if_pos c19] at H
          have c19b0 : (((rd_T35 l0 x3_1).f0) == (wrap64 (((rd_T35 l0 (ji15)).f0) + 1))) = true := beq_iff_eq.mpr c19
          have c19b1 : (((rd_T35 l0 x3_1).f0) != (wrap64 (((rd_T35 l0 (ji15)).f0) + 1))) = false := bne_eq_false_iff_eq.mpr c19
          clear c19
          by_cases c20 : ((rd_T35 l0 (ji15)).f1) = 0
          ·rw [if_pos c20] at H
           have c20b0 : (((rd_T35 l0 (ji15)).f1) == 0) = true := beq_iff_eq.mpr c20
           have c20b1 : (((rd_T35 l0 (ji15)).f1) != 0) = false := bne_eq_false_iff_eq.mpr c20
           clear c20
           have H' := Aside0.mk H
           clear H
           have p120 : 0 ≤ ((ji15) : Int) := of_decide_eq_true y2_
           have q120 : (ji15) < (l0.length : Int) := of_decide_eq_true y2_
           obtain ⟨ad120, A120_4, c120_4, e120, hx120_0, hx120_1, hx120_2, hx120_3, hx120_4, hl120_4, hi120_4⟩ := at_T35 HR0.out (ji15) p120 q120
           obtain rfl : ad117 = ad120 := (by injection e120)
           replace hx120_0 := (HB.out.cell (World.block_lt_of_cell? w _ hx120_0)).trans hx120_0
           replace hx120_1 := (HB.out.cell (World.block_lt_of_cell? w _ hx120_1)).trans hx120_1
           replace hx120_2 := (HB.out.cell (World.block_lt_of_cell? w _ hx120_2)).trans hx120_2
           replace hx120_3 := (HB.out.cell (World.block_lt_of_cell? w _ hx120_3)).trans hx120_3
           replace hx120_4 := (HB.out.cell (World.block_lt_of_cell? w _ hx120_4)).trans hx120_4
           try (have e_ := Option.some.inj (hx117_4.symm.trans hx120_4); injection e_ with ea_ eb_ ec_; rw [ea_, ec_] at hx117_4; clear ea_ eb_ ec_)
           have HR120_4 := Aside0.mk hi120_4
           have HC120_4 := Aside0.mk hl120_4
           clear hi120_4 hl120_4
           replace p120 := eq_true p120
           replace q120 := eq_true q120
           have p121 : 0 ≤ ((ji15) : Int) := of_decide_eq_true y2_
           have q121 : (ji15) < (l0.length : Int) := of_decide_eq_true y2_
           obtain ⟨ad121, A121_4, c121_4, e121, hx121_0, hx121_1, hx121_2, hx121_3, hx121_4, hl121_4, hi121_4⟩ := at_T35 HR0.out (ji15) p121 q121
           obtain rfl : ad117 = ad121 := (by injection e121)
           replace hx121_0 := (HB.out.cell (World.block_lt_of_cell? w _ hx121_0)).trans hx121_0
           replace hx121_1 := (HB.out.cell (World.block_lt_of_cell? w _ hx121_1)).trans hx121_1
           replace hx121_2 := (HB.out.cell (World.block_lt_of_cell? w _ hx121_2)).trans hx121_2
           replace hx121_3 := (HB.out.cell (World.block_lt_of_cell? w _ hx121_3)).trans hx121_3
           replace hx121_4 := (HB.out.cell (World.block_lt_of_cell? w _ hx121_4)).trans hx121_4
           have HR121_4 := Aside0.mk hi121_4
           have HC121_4 := Aside0.mk hl121_4
           clear hi121_4 hl121_4
           replace p121 := eq_true p121
           replace q121 := eq_true q121
           have ea_ := Option.some.inj (hx120_4.symm.trans hx121_4)
           injection ea_ with ea_ en_ ec_
           subst ea_
           subst ec_
           clear en_
           have p122 : 0 ≤ ((ji15) : Int) := of_decide_eq_true y2_
           have q122 : (ji15) < (l0.length : Int) := of_decide_eq_true y2_
           obtain ⟨ad122, A122_4, c122_4, e122, hx122_0, hx122_1, hx122_2, hx122_3, hx122_4, hl122_4, hi122_4⟩ := at_T35 HR0.out (ji15) p122 q122
           obtain rfl : ad117 = ad122 := (by injection e122)
           replace hx122_0 := (HB.out.cell (World.block_lt_of_cell? w _ hx122_0)).trans hx122_0
           replace hx122_1 := (HB.out.cell (World.block_lt_of_cell? w _ hx122_1)).trans hx122_1
           replace hx122_2 := (HB.out.cell (World.block_lt_of_cell? w _ hx122_2)).trans hx122_2
           replace hx122_3 := (HB.out.cell (World.block_lt_of_cell? w _ hx122_3)).trans hx122_3
           replace hx122_4 := (HB.out.cell (World.block_lt_of_cell? w _ hx122_4)).trans hx122_4
           have HR122_4 := Aside0.mk hi122_4
           have HC122_4 := Aside0.mk hl122_4
           clear hi122_4 hl122_4
           replace p122 := eq_true p122
           replace q122 := eq_true q122
           have ea_ := Option.some.inj (hx120_4.symm.trans hx122_4)
           injection ea_ with ea_ en_ ec_
           subst ea_
           subst ec_
           clear en_
           go_wp2
           go_roundg kj3
           case measure => have := HK1.out; have := HJ3.out; omega
           case rel => exact ⟨(wrap64 (x3_1 + 1)), y4_, H', ⟨by have := HK1.out; have := HJ3.out; omega⟩, ⟨y13_⟩⟩
          ·rw [if_neg c20] at H
           have c20b0 : (((rd_T35 l0 (ji15)).f1) == 0) = false := beq_eq_false_iff_ne.mpr c20
           have c20b1 : (((rd_T35 l0 (ji15)).f1) != 0) = true := bne_iff_ne.mpr c20
           obtain rfl := Option.some.inj H
           have p120 : 0 ≤ ((ji15) : Int) := of_decide_eq_true y2_
           have q120 : (ji15) < (l0.length : Int) := of_decide_eq_true y2_
           obtain ⟨ad120, A120_4, c120_4, e120, hx120_0, hx120_1, hx120_2, hx120_3, hx120_4, hl120_4, hi120_4⟩ := at_T35 HR0.out (ji15) p120 q120
           obtain rfl : ad117 = ad120 := (by injection e120)
           replace hx120_0 := (HB.out.cell (World.block_lt_of_cell? w _ hx120_0)).trans hx120_0
           replace hx120_1 := (HB.out.cell (World.block_lt_of_cell? w _ hx120_1)).trans hx120_1
           replace hx120_2 := (HB.out.cell (World.block_lt_of_cell? w _ hx120_2)).trans hx120_2
           replace hx120_3 := (HB.out.cell (World.block_lt_of_cell? w _ hx120_3)).trans hx120_3
           replace hx120_4 := (HB.out.cell (World.block_lt_of_cell? w _ hx120_4)).trans hx120_4
           try (have e_ := Option.some.inj (hx117_4.symm.trans hx120_4); injection e_ with ea_ eb_ ec_; rw [ea_, ec_] at hx117_4; clear ea_ eb_ ec_)
           have HR120_4 := Aside0.mk hi120_4
           have HC120_4 := Aside0.mk hl120_4
           clear hi120_4 hl120_4
           replace p120 := eq_true p120
           replace q120 := eq_true q120
           have p121 : 0 ≤ ((ji15) : Int) := of_decide_eq_true y2_
           have q121 : (ji15) < (l0.length : Int) := of_decide_eq_true y2_
           obtain ⟨ad121, A121_4, c121_4, e121, hx121_0, hx121_1, hx121_2, hx121_3, hx121_4, hl121_4, hi121_4⟩ := at_T35 HR0.out (ji15) p121 q121
           obtain rfl : ad117 = ad121 := (by injection e121)
           replace hx121_0 := (HB.out.cell (World.block_lt_of_cell? w _ hx121_0)).trans hx121_0
           replace hx121_1 := (HB.out.cell (World.block_lt_of_cell? w _ hx121_1)).trans hx121_1
           replace hx121_2 := (HB.out.cell (World.block_lt_of_cell? w _ hx121_2)).trans hx121_2
           replace hx121_3 := (HB.out.cell (World.block_lt_of_cell? w _ hx121_3)).trans hx121_3
           replace hx121_4 := (HB.out.cell (World.block_lt_of_cell? w _ hx121_4)).trans hx121_4
           have HR121_4 := Aside0.mk hi121_4
           have HC121_4 := Aside0.mk hl121_4
           clear hi121_4 hl121_4
           replace p121 := eq_true p121
           replace q121 := eq_true q121
           have ea_ := Option.some.inj (hx120_4.symm.trans hx121_4)
           injection ea_ with ea_ en_ ec_
           subst ea_
           subst ec_
           clear en_
           have p122 : 0 ≤ ((ji15) : Int) := of_decide_eq_true y2_
           have q122 : (ji15) < (l0.length : Int) := of_decide_eq_true y2_
           obtain ⟨ad122, A122_4, c122_4, e122, hx122_0, hx122_1, hx122_2, hx122_3, hx122_4, hl122_4, hi122_4⟩ := at_T35 HR0.out (ji15) p122 q122
           obtain rfl : ad117 = ad122 := (by injection e122)
           replace hx122_0 := (HB.out.cell (World.block_lt_of_cell? w _ hx122_0)).trans hx122_0
           replace hx122_1 := (HB.out.cell (World.block_lt_of_cell? w _ hx122_1)).trans hx122_1
           replace hx122_2 := (HB.out.cell (World.block_lt_of_cell? w _ hx122_2)).trans hx122_2
           replace hx122_3 := (HB.out.cell (World.block_lt_of_cell? w _ hx122_3)).trans hx122_3
           replace hx122_4 := (HB.out.cell (World.block_lt_of_cell? w _ hx122_4)).trans hx122_4
           have HR122_4 := Aside0.mk hi122_4
           have HC122_4 := Aside0.mk hl122_4
           clear hi122_4 hl122_4
           replace p122 := eq_true p122
           replace q122 := eq_true q122
           have ea_ := Option.some.inj (hx120_4.symm.trans hx122_4)
           injection ea_ with ea_ en_ ec_
           subst ea_
           subst ec_
           clear en_
           go_wp2
           go_ret
           exact ⟨y21_, y13_⟩
         ·rw [if_neg c19] at H
          have c19b0 : (((rd_T35 l0 x3_1).f0) == (wrap64 (((rd_T35 l0 (ji15)).f0) + 1))) = false := beq_eq_false_iff_ne.mpr c19
          have c19b1 : (((rd_T35 l0 x3_1).f0) != (wrap64 (((rd_T35 l0 (ji15)).f0) + 1))) = true := bne_iff_ne.mpr c19
          have H' := Aside0.mk H
          clear H
          have p120 : 0 ≤ ((ji15) : Int) := of_decide_eq_true y2_
          have q120 : (ji15) < (l0.length : Int) := of_decide_eq_true y2_
          obtain ⟨ad120, A120_4, c120_4, e120, hx120_0, hx120_1, hx120_2, hx120_3, hx120_4, hl120_4, hi120_4⟩ := at_T35 HR0.out (ji15) p120 q120
          obtain rfl : ad117 = ad120 := (by injection e120)
          replace hx120_0 := (HB.out.cell (World.block_lt_of_cell? w _ hx120_0)).trans hx120_0
          replace hx120_1 := (HB.out.cell (World.block_lt_of_cell? w _ hx120_1)).trans hx120_1
          replace hx120_2 := (HB.out.cell (World.block_lt_of_cell? w _ hx120_2)).trans hx120_2
          replace hx120_3 := (HB.out.cell (World.block_lt_of_cell? w _ hx120_3)).trans hx120_3
          replace hx120_4 := (HB.out.cell (World.block_lt_of_cell? w _ hx120_4)).trans hx120_4
          try (have e_ := Option.some.inj (hx117_4.symm.trans hx120_4); injection e_ with ea_ eb_ ec_; rw [ea_, ec_] at hx117_4; clear ea_ eb_ ec_)
          have HR120_4 := Aside0.mk hi120_4
          have HC120_4 := Aside0.mk hl120_4
          clear hi120_4 hl120_4
          replace p120 := eq_true p120
          replace q120 := eq_true q120
          have p121 : 0 ≤ ((ji15) : Int) := of_decide_eq_true y2_
          have q121 : (ji15) < (l0.length : Int) := of_decide_eq_true y2_
          obtain ⟨ad121, A121_4, c121_4, e121, hx121_0, hx121_1, hx121_2, hx121_3, hx121_4, hl121_4, hi121_4⟩ := at_T35 HR0.out (ji15) p121 q121
          obtain rfl : ad117 = ad121 := (by injection e121)
          replace hx121_0 := (HB.out.cell (World.block_lt_of_cell? w _ hx121_0)).trans hx121_0
          replace hx121_1 := (HB.out.cell (World.block_lt_of_cell? w _ hx121_1)).trans hx121_1
          replace hx121_2 := (HB.out.cell (World.block_lt_of_cell? w _ hx121_2)).trans hx121_2
          replace hx121_3 := (HB.out.cell (World.block_lt_of_cell? w _ hx121_3)).trans hx121_3
          replace hx121_4 := (HB.out.cell (World.block_lt_of_cell? w _ hx121_4)).trans hx121_4
          have HR121_4 := Aside0.mk hi121_4
          have HC121_4 := Aside0.mk hl121_4
          clear hi121_4 hl121_4
          replace p121 := eq_true p121
          replace q121 := eq_true q121
          have ea_ := Option.some.inj (hx120_4.symm.trans hx121_4)
          injection ea_ with ea_ en_ ec_
          subst ea_
          subst ec_
          clear en_
          go_wp2
          go_roundg kj3
          case measure => have := HK1.out; have := HJ3.out; omega
          case rel => exact ⟨(wrap64 (x3_1 + 1)), y4_, H', ⟨by have := HK1.out; have := HJ3.out; omega⟩, ⟨y13_⟩⟩
       ·rw [if_neg c14] at H
        have c14b0 : decide (0 < x3_1) = false := decide_eq_false c14
        clear c14
        have H' := Aside0.mk H
        clear H
        go_wp2
        go_roundg kj3
        case measure => have := HK1.out; have := HJ3.out; omega
        case rel => exact ⟨(wrap64 (x3_1 + 1)), y4_, H', ⟨by have := HK1.out; have := HJ3.out; omega⟩, ⟨y13_⟩⟩
   ·rw [if_neg c2] at H
    have c2b0 : decide (x3_1 < (l0.length : Int)) = false := decide_eq_false c2
    clear c2
    obtain rfl := Option.some.inj H
    go_wp2
    go_ret
    exact ⟨y11_, y13_⟩
end Go.Proofs.YtpnhjipaeggcpaaDoor.X
end
section
namespace Go.Proofs.YtpnhjipaeggcpaaDoor.X
open Go.RowKit Go.Proofs.YtpnhjipaeggcpaaDoorW.PrintWords Go.Proofs.YtpnhjipaeggcpaaDoorW.PrintLast Go.Proofs.YtpnhjipaeggcpaaDoorW.PrintMore
attribute [local go_sem] max2_int min2_int max_two min_two max_three min_three max_four min_four
mutual
def boltingref04_End.j0 : Nat → List (S35) → Int → Bool → Option (Int)
 | 0, _, _, _ => none
 | k + 1, x0, x1, x13 => if x13 = true then (some 0) else (boltingref04_End.l0 k x0 x1 (wrap64 (x1 + 1)))
def boltingref04_End.l0 : Nat → List (S35) → Int → Int → Option (Int)
 | 0, _, _, _ => none
 | k + 1, x0, x1, x5 => if x5 < (x0.length : Int) then (if 0 ≤ x5 then (if 0 ≤ x1 then (if x1 < (x0.length : Int) then (if ((rd_T35 x0 x5).f0) ≤ ((rd_T35 x0 x1).f0) then (some x5) else (boltingref04_End.l0 k x0 x1 (wrap64 (x5 + 1)))) else (none)) else (none)) else (none)) else (some (x0.length : Int))
end
def boltingref04_End.f (k : Nat) (l0 : List (S35)) (a1 : Int) : Option (Int) := if a1 < 0 then (boltingref04_End.j0 k l0 a1 true) else (boltingref04_End.j0 k l0 a1 (decide (a1 ≥ (l0.length : Int))))
theorem boltingref04_End.mono_l : ∀ k, (∀ y0 y1 y2, LeO (boltingref04_End.j0 k y0 y1 y2) (boltingref04_End.j0 (k + 1) y0 y1 y2)) ∧ (∀ y0 y1 y2, LeO (boltingref04_End.l0 k y0 y1 y2) (boltingref04_End.l0 (k + 1) y0 y1 y2))
 | 0 => ⟨fun _ _ _ r h => by simp [boltingref04_End.j0] at h, fun _ _ _ r h => by simp [boltingref04_End.l0] at h⟩
 | k + 1 => by
  obtain ⟨ih0, ih1⟩ := boltingref04_End.mono_l k
  refine ⟨?_, ?_⟩
  ·intro y0 y1 y2
   unfold boltingref04_End.j0
   repeat' first
   | (with_reducible exact ih0 _ _ _)
   | (with_reducible exact ih1 _ _ _)
   | (with_reducible exact LeO.refl _)
   | (with_reducible exact LeO.none _)
   | (with_reducible refine LeO.ite ?_ ?_)
   | (with_reducible refine LeO.bind ?_ (fun _ => ?_))
   | exact ih0 _ _ _
   | exact ih1 _ _ _
   | exact LeO.none _
   | refine LeO.ite ?_ ?_
   | refine LeO.bind ?_ (fun _ => ?_)
  ·intro y0 y1 y2
   unfold boltingref04_End.l0
   repeat' first
   | (with_reducible exact ih0 _ _ _)
   | (with_reducible exact ih1 _ _ _)
   | (with_reducible exact LeO.refl _)
   | (with_reducible exact LeO.none _)
   | (with_reducible refine LeO.ite ?_ ?_)
   | (with_reducible refine LeO.bind ?_ (fun _ => ?_))
   | exact ih0 _ _ _
   | exact ih1 _ _ _
   | exact LeO.none _
   | refine LeO.ite ?_ ?_
   | refine LeO.bind ?_ (fun _ => ?_)
set_option maxHeartbeats 8000000 in
set_option maxRecDepth 100000 in
theorem boltingref04_End.calls (k : Nat) (A0 : Option Addr) (c0 : Nat) (l0 : List (S35)) (a1 : Int) (r : Int) (w : World) (hr0 : Kd.C k35 w A0 l0.length l0) (hc0 : l0.length ≤ c0) (h : boltingref04_End.f k l0 a1 = some r) :
  Calls Tryd.prog 15 #[.slice A0 l0.length c0, .int .i64 a1] w fun e w' => e = .returned (.int .i64 r) ∧ Drawn0 w w' := by
 have HR0 := Aside0.mk hr0
 have HC0 := Aside0.mk hc0
 clear hr0 hc0
 have H : (if a1 < 0 then (boltingref04_End.j0 k l0 a1 true) else (boltingref04_End.j0 k l0 a1 (decide (a1 ≥ (l0.length : Int))))) = some r := h
 clear h
 have HC3 := Aside0.mk H
 clear H
 go_enter Tryd.func15, Tryd.ntmps15
 go_upto_region 1 with (fail)
 repeat (go_quiet (fail); go_upto_region 1 with (fail))
 go_cut [13] (fun v13 wc => ∃ (kq : Nat) (x13_2 : Bool), v13 = .bool x13_2 ∧ Aside0 (boltingref04_End.j0 kq l0 a1 x13_2 = some r) ∧ Aside0 (kq ≤ k) ∧ Drawn0 w wc)
 case first =>
  have H := HC3.out
  clear HC3
  by_cases c4 : a1 < 0
  ·rw [if_pos c4] at H
   have c4b0 : decide (a1 < 0) = true := decide_eq_true c4
   clear c4
   (first | rw [c4b0] | (simp only [i64_w, i32_w]; rw [c4b0]) | skip)
   have H' := Aside0.mk H
   clear H
   go_wp2
   repeat (go_quiet (fail); try go_wp2)
   go_meet
   case rel => exact ⟨_, (true), y4_, H', ⟨y1_⟩, y3_⟩
  ·rw [if_neg c4] at H
   have c4b0 : decide (a1 < 0) = false := decide_eq_false c4
   clear c4
   (first | rw [c4b0] | (simp only [i64_w, i32_w]; rw [c4b0]) | skip)
   have H' := Aside0.mk H
   clear H
   go_wp2
   repeat (go_quiet (fail); try go_wp2)
   go_meet
   case rel => exact ⟨_, (decide (a1 ≥ (l0.length : Int))), y4_, H', ⟨y1_⟩, y3_⟩
 case rest =>
  clear HC3
  try clear c1
  try clear p2
  try clear c4
  try clear c4b0
  obtain ⟨kq, x13_2, rfl, HA, HJ2, ⟨mc2, rfl⟩⟩ := hcut
  cases kq with
  | zero => exact absurd HA.out (by simp [boltingref04_End.j0])
  | succ kj2 =>
   have H := HA.out
   clear HA
   simp only [boltingref04_End.j0] at H
   by_cases c5 : x13_2 = true
   ·subst c5
    rw [if_pos rfl] at H
    obtain rfl := Option.some.inj H
    go_wp2
    repeat (go_quiet (fail); try go_wp2)
    go_ret
    exact ⟨y4_, y3_⟩
   ·replace c5 := Bool.eq_false_iff.mpr c5
    subst c5
    rw [if_neg (show ¬ (false = true) by decide)] at H
    have H' := Aside0.mk H
    clear H
    go_wp2
    repeat (go_quiet (fail); try go_wp2)
    go_loopg [5] kj2 (fun kq v5 w' => ∃ (x5_2 : Int), v5 = .int .i64 x5_2 ∧ Aside0 (boltingref04_End.l0 kq l0 a1 x5_2 = some r) ∧ Aside0 (kq ≤ kj2) ∧ Drawn0 w w')
    case atStart => exact ⟨(wrap64 (a1 + 1)), y4_, H', ⟨Nat.le_refl _⟩, y3_⟩
    case round =>
     clear H'
     try clear c1
     try clear c2
     try clear p2
     try clear c4
     try clear c4b0
     try clear c5
     try clear p2
     obtain ⟨x5_2, rfl, HA, HK2, ⟨m2, rfl⟩⟩ := hrel
     cases gk with
     | zero => exact absurd HA.out (by simp [boltingref04_End.l0])
     | succ k2 =>
      have H := HA.out
      clear HA
      simp only [boltingref04_End.l0] at H
      by_cases c6 : x5_2 < (l0.length : Int)
      ·rw [if_pos c6] at H
       have c6b0 : decide (x5_2 < (l0.length : Int)) = true := decide_eq_true c6
       clear c6
       by_cases c7 : 0 ≤ x5_2
       rotate_left
       ·rw [if_neg c7] at H
        exact absurd H (by simp)
       rw [if_pos c7] at H
       have c7b0 : decide (0 ≤ x5_2) = true := decide_eq_true c7
       clear c7
       by_cases c8 : 0 ≤ a1
       rotate_left
       ·rw [if_neg c8] at H
        exact absurd H (by simp)
       rw [if_pos c8] at H
       have c8b0 : decide (0 ≤ a1) = true := decide_eq_true c8
       clear c8
       by_cases c9 : a1 < (l0.length : Int)
       rotate_left
       ·rw [if_neg c9] at H
        exact absurd H (by simp)
       rw [if_pos c9] at H
       have c9b0 : decide (a1 < (l0.length : Int)) = true := decide_eq_true c9
       clear c9
       by_cases c10 : ((rd_T35 l0 x5_2).f0) ≤ ((rd_T35 l0 a1).f0)
       ·rw [if_pos c10] at H
        have c10b0 : decide (((rd_T35 l0 x5_2).f0) ≤ ((rd_T35 l0 a1).f0)) = true := decide_eq_true c10
        clear c10
        obtain rfl := Option.some.inj H
        have p227 : 0 ≤ (x5_2 : Int) := of_decide_eq_true y2_
        have q227 : x5_2 < (l0.length : Int) := of_decide_eq_true y2_
        obtain ⟨ad227, A227_4, c227_4, e227, hx227_0, hx227_1, hx227_2, hx227_3, hx227_4, hl227_4, hi227_4⟩ := at_T35 HR0.out x5_2 p227 q227
        cases e227
        have HR227_4 := Aside0.mk hi227_4
        have HC227_4 := Aside0.mk hl227_4
        clear hi227_4 hl227_4
        replace p227 := eq_true p227
        replace q227 := eq_true q227
        have p228 : 0 ≤ (a1 : Int) := of_decide_eq_true y2_
        have q228 : a1 < (l0.length : Int) := of_decide_eq_true y2_
        obtain ⟨ad228, A228_4, c228_4, e228, hx228_0, hx228_1, hx228_2, hx228_3, hx228_4, hl228_4, hi228_4⟩ := at_T35 HR0.out a1 p228 q228
        obtain rfl : ad227 = ad228 := (by injection e228)
        try (have e_ := Option.some.inj (hx227_4.symm.trans hx228_4); injection e_ with ea_ eb_ ec_; rw [ea_, ec_] at hx227_4; clear ea_ eb_ ec_)
        have HR228_4 := Aside0.mk hi228_4
        have HC228_4 := Aside0.mk hl228_4
        clear hi228_4 hl228_4
        replace p228 := eq_true p228
        replace q228 := eq_true q228
        go_wp2
        repeat (go_quiet (fail); try go_wp2)
        go_ret
        exact ⟨y4_, y3_⟩
       ·rw [if_neg c10] at H
        have c10b0 : decide (((rd_T35 l0 x5_2).f0) ≤ ((rd_T35 l0 a1).f0)) = false := decide_eq_false c10
        clear c10
        have H' := Aside0.mk H
        clear H
        have p227 : 0 ≤ (x5_2 : Int) := of_decide_eq_true y2_
        have q227 : x5_2 < (l0.length : Int) := of_decide_eq_true y2_
        obtain ⟨ad227, A227_4, c227_4, e227, hx227_0, hx227_1, hx227_2, hx227_3, hx227_4, hl227_4, hi227_4⟩ := at_T35 HR0.out x5_2 p227 q227
        cases e227
        have HR227_4 := Aside0.mk hi227_4
        have HC227_4 := Aside0.mk hl227_4
        clear hi227_4 hl227_4
        replace p227 := eq_true p227
        replace q227 := eq_true q227
        have p228 : 0 ≤ (a1 : Int) := of_decide_eq_true y2_
        have q228 : a1 < (l0.length : Int) := of_decide_eq_true y2_
        obtain ⟨ad228, A228_4, c228_4, e228, hx228_0, hx228_1, hx228_2, hx228_3, hx228_4, hl228_4, hi228_4⟩ := at_T35 HR0.out a1 p228 q228
        obtain rfl : ad227 = ad228 := (by injection e228)
        try (have e_ := Option.some.inj (hx227_4.symm.trans hx228_4); injection e_ with ea_ eb_ ec_; rw [ea_, ec_] at hx227_4; clear ea_ eb_ ec_)
        have HR228_4 := Aside0.mk hi228_4
        have HC228_4 := Aside0.mk hl228_4
        clear hi228_4 hl228_4
        replace p228 := eq_true p228
        replace q228 := eq_true q228
        go_wp2
        repeat (go_quiet (fail); try go_wp2)
        go_roundg k2
        case measure => have := HJ2.out; have := HK2.out; omega
        case rel => exact ⟨(wrap64 (x5_2 + 1)), y4_, H', ⟨by have := HJ2.out; have := HK2.out; omega⟩, y3_⟩
      ·rw [if_neg c6] at H
       have c6b0 : decide (x5_2 < (l0.length : Int)) = false := decide_eq_false c6
       clear c6
       obtain rfl := Option.some.inj H
       go_wp2
       repeat (go_quiet (fail); try go_wp2)
       go_ret
       exact ⟨y4_, y3_⟩
end Go.Proofs.YtpnhjipaeggcpaaDoor.X
end
section
namespace Go.Proofs.YtpnhjipaeggcpaaDoor.X
open Go.RowKit Go.Proofs.YtpnhjipaeggcpaaDoorW.PrintWords Go.Proofs.YtpnhjipaeggcpaaDoorW.PrintLast Go.Proofs.YtpnhjipaeggcpaaDoorW.PrintMore
theorem r4End_loop (l : List S35) (i : Nat) (hi : i < l.length) (hmax : l.length ≤ 9223372036854775807) : ∀ (d k : Nat), k + d = l.length →
    boltingref04_End.l0 (d + 1) l (i : Int) (k : Int) = some ((k + runDeep ((rd_T35 l (i : Int)).f0) (l.drop k) : Nat) : Int)
  | 0, k, hk => by
    simp only [boltingref04_End.l0]
    rw [if_neg (by omega), List.drop_eq_nil_of_le (by omega)]
    simp [runDeep]; omega
  | d + 1, k, hk => by
    have hlt : k < l.length := by omega
    have ih := r4End_loop l i hi hmax d (k + 1) (by omega)
    rw [List.drop_eq_getElem_cons hlt]
    have hrd : rd_T35 l (k : Int) = l[k] := by simp [rd_T35, hlt]
    rw [boltingref04_End.l0, if_pos (by omega), if_pos (by omega), if_pos (by omega), if_pos (by omega), hrd, runDeep]
    by_cases hd : l[k].f0 ≤ (rd_T35 l (i : Int)).f0
    · rw [if_pos hd, if_neg (by omega)]; rfl
    · rw [if_neg hd, if_pos (by omega), show wrap64 ((k : Int) + 1) = ((k + 1 : Nat) : Int) by unfold wrap64; omega, ih]
      congr 2
      omega
theorem r4End_is (l : List S35) (i : Int) (hmax : l.length ≤ 9223372036854775807) : boltingref04_End.f (l.length + 2) l i = some (rEnd l i) := by
  unfold boltingref04_End.f rEnd
  by_cases h0 : i < 0
  · rw [if_pos h0, if_neg (by omega)]; rfl
  · rw [if_neg h0]
    by_cases h : i < (l.length : Int)
    · obtain ⟨k, rfl⟩ := Int.eq_ofNat_of_zero_le (by omega : 0 ≤ i)
      rw [if_pos (by omega), decide_eq_false (by omega)]
      simp only [boltingref04_End.j0]
      rw [if_neg (by decide), show wrap64 ((k : Int) + 1) = ((k + 1 : Nat) : Int) by unfold wrap64; omega]
      have := r4End_loop l k (by omega) hmax (l.length - (k + 1)) (k + 1) (by omega)
      rw [leO_le (f := fun q => boltingref04_End.l0 q l (k : Int) ((k + 1 : Nat) : Int)) (fun q => (boltingref04_End.mono_l q).2 _ _ _) this (by omega)]
      rfl
    · rw [if_neg (by omega), decide_eq_true (by omega)]; rfl
def rkOk (l : List S35) (i : Int) (k : Nat) : Bool := if i = -1 then (rd_T35 l (k : Int)).f0 == 0 else decide ((k : Int) > i) && (decide ((k : Int) < rEnd l i) && ((rd_T35 l (k : Int)).f0 == wrap64 ((rd_T35 l i).f0 + 1)))
def rkTo (l : List S35) (i : Int) (n : Nat) : List Int := ((List.range n).filter (rkOk l i)).map fun (k : Nat) => (k : Int)
def boltingref04_Kids.f (l0 : List S35) (a1 : Int) : Option (List Int) := if a1 < -1 ∨ a1 ≥ (l0.length : Int) then some [] else if l0.length < 17592186044416 then some (rkTo l0 a1 l0.length) else none
theorem rkTo_yes {l : List S35} {i : Int} {k : Nat} (h : rkOk l i k = true) : rkTo l i (k + 1) = rkTo l i k ++ [(k : Int)] := by simp [rkTo, List.range_succ, h]
theorem rkTo_no {l : List S35} {i : Int} {k : Nat} (h : rkOk l i k = false) : rkTo l i (k + 1) = rkTo l i k := by simp [rkTo, List.range_succ, h]
theorem rkTo_length (l : List S35) (i : Int) (n : Nat) : (rkTo l i n).length ≤ n := by
  unfold rkTo
  rw [List.length_map]
  exact Nat.le_trans (List.length_filter_le _ _) (by simp)
theorem rk_more {w W w3 : World} {v v' : Value} {xs : List Int} {k : Int} {o : Obj} (h1 : W.ownsRow w.heap.size 3 1 v xs.length (xs.map (.int .i64))) (h2 : Below w.heap.size w W) (h3 : w3.ownsRow w.heap.size 3 1 v' (xs.length + 1) (xs.map (.int .i64) ++ [.int .i64 k])) (hg : (W.alloc o).grownBy w3 v.ownBlock) :
    w3.ownsRow w.heap.size 3 1 v' (xs ++ [k]).length ((xs ++ [k]).map (.int .i64)) ∧ Below w.heap.size w w3 :=
  ⟨by rw [List.length_append, List.map_append]; exact h3, (h2.alloc h2.size o).grown hg (by have := h2.size; simp; omega) (fun k hk => (h1.lt k hk).1)⟩
theorem rk_lit (w : World) : (w.alloc (.cells #[] 3)).ownsRow w.heap.size 3 1 (.slice (some ⟨w.heap.size, 0, none⟩) 0 0) 0 [] :=
  ⟨rfl, .inr ⟨_, 0, #[], rfl, Nat.le_refl _, World.alloc_heap_new w _, Nat.le_refl _, by unfold maxLen; omega, rfl, rfl⟩⟩
set_option maxHeartbeats 8000000 in
set_option maxRecDepth 100000 in
theorem boltingref04_Kids.calls (A0 : Option Addr) (c0 : Nat) (l0 : List S35) (a1 : Int) (r : List Int) (w : World) (hr0 : Kd.C k35 w A0 l0.length l0) (hc0 : l0.length ≤ c0) (h : boltingref04_Kids.f l0 a1 = some r) :
    Calls Tryd.prog 13 #[.slice A0 l0.length c0, .int .i64 a1] w fun e w' => ∃ v0_ : Value, e = .returned v0_ ∧ Kd.R (Kd.int .i64) 3 w' w.heap.size (fun _ => True) v0_ r ∧ Below w.heap.size w w' := by
  have hu := Tryd.underlying35
  have hmax : l0.length ≤ 9223372036854775807 := hr0.2.1
  have HR := Aside0.mk hr0
  clear hr0
  unfold boltingref04_Kids.f at h
  by_cases hout : a1 < -1 ∨ a1 ≥ (l0.length : Int)
  · rw [if_pos hout] at h
    cases h
    rcases hout with hlow | hhigh
    · go_enter Tryd.func13, Tryd.ntmps13
      go_wp2
      go_ret
      exact ⟨_, rfl, Kd.R_of_own (rk_lit w) (fun _ _ => trivial), (Below.refl _ w).alloc (Nat.le_refl _) _⟩
    · have hnl : ¬ a1 < -1 := by omega
      go_enter Tryd.func13, Tryd.ntmps13
      go_wp2
      go_ret
      exact ⟨_, rfl, Kd.R_of_own (rk_lit w) (fun _ _ => trivial), (Below.refl _ w).alloc (Nat.le_refl _) _⟩
  · rw [if_neg hout] at h
    split at h
    case isFalse => cases h
    rename_i hlen
    cases h
    obtain ⟨i0, hi0, hz0, hz1, hz2⟩ := info_parts kids_int
    have h1 : ¬ a1 < -1 := by omega
    have h2 : ¬ a1 ≥ (l0.length : Int) := by omega
    go_enter Tryd.func13, Tryd.ntmps13
    go_wp2
    go_loopw [5, 6, 7] (fun v x _ wr => ∃ k : Nat, x = .int .i64 k ∧ k ≤ l0.length ∧ Aside0 (wr.ownsRow w.heap.size 3 1 v (rkTo l0 a1 k).length ((rkTo l0 a1 k).map (.int .i64))) ∧ Aside0 (Below w.heap.size w wr)) (fun _ x _ _ => l0.length - (intOf x).toNat)
    case atStart => exact ⟨0, rfl, Nat.zero_le _, ⟨rk_lit w⟩, ⟨(Below.refl _ w).alloc (Nat.le_refl _) _⟩⟩
    case round =>
      obtain ⟨k, rfl, hk, HO, HB⟩ := hrel
      by_cases hlt : k < l0.length
      · have hlz : (k : Int) < (l0.length : Int) := by omega
        obtain ⟨x, hx, hxe⟩ := getD_at hlt
        obtain ⟨ad, A4, c4, e, x0, _, _, _, _, _, _⟩ := row_at (Kd.C_below HR.out HB.out) hx
        have hrd : rd_T35 l0 (k : Int) = x := by simp [rd_T35, hx]
        by_cases ha : a1 = -1
        · subst ha
          by_cases hd : x.f0 = 0
          · have HOK := Aside0.mk (show rkOk l0 (-1) k = true by unfold rkOk; rw [if_pos rfl, hrd, hd]; rfl)
            have hd1 : (x.f0 == 0) = true := beq_iff_eq.2 hd
            cases e
            go_wp2_with fail
            go_quiet (fail)
            obtain ⟨W2, hW2⟩ : ∃ W2, wr.drewN nq = W2 := ⟨_, rfl⟩
            have HO2 := Aside0.mk (show W2.ownsRow w.heap.size 3 1 u5 (rkTo l0 (-1) k).length ((rkTo l0 (-1) k).map (.int .i64)) by rw [← hW2]; exact HO.out)
            have HB2 := Aside0.mk (show Below w.heap.size w W2 by rw [← hW2]; exact pw_below_drewN HB.out _)
            rw [hW2]
            clear hW2
            go_wp2_with (at_builtin; refine wpList_append_own _ rfl _ _ 29 rfl w.heap.size 3 i0 (.int .i64 0) 1 8 Tryd.underlying29 hi0 hz0 hz1 hz2 rfl (by decide) _ _ _ rfl (HO2.out.alloc _) ⟨W2.heap.size, 0, none⟩ 1 1 [.int .i64 k] rfl rfl ?c1 ?c2 ?c3 ?c4 ?c5 ?_)
            case c1 =>
              intro j u hj
              match j, hj with
              | 0, hj => simp at hj; subst hj; simp [Addr.add]
            case c2 => intro u hu; simp at hu; subst hu; rfl
            case c3 => unfold maxLen; have := rkTo_length l0 (-1) k; omega
            case c4 => have := rkTo_length l0 (-1) k; omega
            case c5 => have := HB2.out.size; simp; omega
            intro v' w3 hown' hgrow _
            have K1 := Aside0.mk (rk_more HO2.out HB2.out hown' hgrow)
            clear hown' hgrow
            go_wp2
            go_roundw
            case rel => exact ⟨k + 1, rfl, by omega, ⟨by rw [rkTo_yes HOK.out]; exact K1.out.1⟩, ⟨K1.out.2⟩⟩
            case measure => simp [intOf]; omega
          · have HOK := Aside0.mk (show rkOk l0 (-1) k = false by unfold rkOk; rw [if_pos rfl, hrd]; exact beq_eq_false_iff_ne.mpr hd)
            have hd1 : (x.f0 == 0) = false := beq_eq_false_iff_ne.mpr hd
            cases e
            go_wp2_with fail
            go_quiet (fail)
            obtain ⟨W2, hW2⟩ : ∃ W2, wr.drewN nq = W2 := ⟨_, rfl⟩
            have HO2 := Aside0.mk (show W2.ownsRow w.heap.size 3 1 u5 (rkTo l0 (-1) k).length ((rkTo l0 (-1) k).map (.int .i64)) by rw [← hW2]; exact HO.out)
            have HB2 := Aside0.mk (show Below w.heap.size w W2 by rw [← hW2]; exact pw_below_drewN HB.out _)
            rw [hW2]
            clear hW2
            go_wp2
            go_roundw
            case rel => exact ⟨k + 1, by go_num, by omega, ⟨by rw [rkTo_no HOK.out]; exact HO2.out⟩, ⟨HB2.out⟩⟩
            case measure => simp [intOf]; omega
        · obtain ⟨m, rfl⟩ : ∃ m : Nat, a1 = m := ⟨a1.toNat, by omega⟩
          have hneg : ((m : Int) == -1) = false := beq_eq_false_iff_ne.mpr (by omega)
          have hml : m < l0.length := by omega
          obtain ⟨y, hy, hye⟩ := getD_at hml
          obtain ⟨bd, B4, d4, e', y0, _, _, _, _, _, _⟩ := row_at (Kd.C_below HR.out HB.out) hy
          have hrd2 : rd_T35 l0 (m : Int) = y := by simp [rd_T35, hy]
          have hk0 : rkOk l0 (m : Int) k = (decide ((k : Int) > m) && (decide ((k : Int) < rEnd l0 m) && (x.f0 == wrap64 (y.f0 + 1)))) := by unfold rkOk; rw [if_neg (by omega), hrd, hrd2]
          have HE := Aside0.mk (fun V hV => (boltingref04_End.calls _ A0 c0 l0 m _ V (Kd.C_below HR.out hV) hc0 (r4End_is l0 m hmax)).mono (fun _ _ h => And.intro h.1 h.2.out) : ∀ V, Below w.heap.size w V → Calls Tryd.prog 15 #[.slice A0 l0.length c0, .int .i64 m] V fun e w' => e = .returned (.int .i64 (rEnd l0 m)) ∧ ∃ n, w' = V.drewN n)
          rw [e] at e'
          cases e'
          subst e
          generalize rEnd l0 (m : Int) = en at hk0 HE
          by_cases hkm : (m : Int) < (k : Int)
          · have hkm1 : decide (m < k) = true := decide_eq_true (by omega)
            rw [show decide ((k : Int) > m) = true from decide_eq_true hkm, Bool.true_and] at hk0
            by_cases hke : (k : Int) < en
            · have hke1 : decide ((k : Int) < en) = true := decide_eq_true hke
              rw [hke1, Bool.true_and] at hk0
              by_cases hd : x.f0 = wrap64 (y.f0 + 1)
              · have hd1 : (x.f0 == wrap64 (y.f0 + 1)) = true := beq_iff_eq.2 hd
                rw [hd1] at hk0
                have HOK := Aside0.mk hk0
                clear hk0 hrd hrd2 hxe hye hx hy hd
                go_wp2_with fail
                go_quiet (first | (go_at_call 15; refine (HE.out _ (pw_below_drewN HB.out _)).mono fun _ _ h => ⟨h.1, ?_⟩; obtain ⟨q, hq⟩ := h.2; exact ⟨_, by rw [hq, World.drewN_drewN]⟩))
                obtain ⟨W2, hW2⟩ : ∃ W2, wr.drewN nq = W2 := ⟨_, rfl⟩
                have HO2 := Aside0.mk (show W2.ownsRow w.heap.size 3 1 u5 (rkTo l0 (m : Int) k).length ((rkTo l0 (m : Int) k).map (.int .i64)) by rw [← hW2]; exact HO.out)
                have HB2 := Aside0.mk (show Below w.heap.size w W2 by rw [← hW2]; exact pw_below_drewN HB.out _)
                rw [hW2]
                clear hW2
                go_wp2_with (at_builtin; refine wpList_append_own _ rfl _ _ 29 rfl w.heap.size 3 i0 (.int .i64 0) 1 8 Tryd.underlying29 hi0 hz0 hz1 hz2 rfl (by decide) _ _ _ rfl (HO2.out.alloc _) ⟨W2.heap.size, 0, none⟩ 1 1 [.int .i64 k] rfl rfl ?c1 ?c2 ?c3 ?c4 ?c5 ?_)
                case c1 =>
                  intro j u hj
                  match j, hj with
                  | 0, hj => simp at hj; subst hj; simp [Addr.add]
                case c2 => intro u hu; simp at hu; subst hu; rfl
                case c3 => unfold maxLen; have := rkTo_length l0 (m : Int) k; omega
                case c4 => have := rkTo_length l0 (m : Int) k; omega
                case c5 => have := HB2.out.size; simp; omega
                intro v' w3 hown' hgrow _
                have K1 := Aside0.mk (rk_more HO2.out HB2.out hown' hgrow)
                clear hown' hgrow
                go_wp2
                go_roundw
                case rel => exact ⟨k + 1, rfl, by omega, ⟨by rw [rkTo_yes HOK.out]; exact K1.out.1⟩, ⟨K1.out.2⟩⟩
                case measure => simp [intOf]; omega
              · have hd1 : (x.f0 == wrap64 (y.f0 + 1)) = false := beq_eq_false_iff_ne.mpr hd
                rw [hd1] at hk0
                have HOK := Aside0.mk hk0
                clear hk0 hrd hrd2 hxe hye hx hy hd
                go_wp2_with fail
                go_quiet (first | (go_at_call 15; refine (HE.out _ (pw_below_drewN HB.out _)).mono fun _ _ h => ⟨h.1, ?_⟩; obtain ⟨q, hq⟩ := h.2; exact ⟨_, by rw [hq, World.drewN_drewN]⟩))
                obtain ⟨W2, hW2⟩ : ∃ W2, wr.drewN nq = W2 := ⟨_, rfl⟩
                have HO2 := Aside0.mk (show W2.ownsRow w.heap.size 3 1 u5 (rkTo l0 (m : Int) k).length ((rkTo l0 (m : Int) k).map (.int .i64)) by rw [← hW2]; exact HO.out)
                have HB2 := Aside0.mk (show Below w.heap.size w W2 by rw [← hW2]; exact pw_below_drewN HB.out _)
                rw [hW2]
                clear hW2
                go_wp2
                go_roundw
                case rel => exact ⟨k + 1, by go_num, by omega, ⟨by rw [rkTo_no HOK.out]; exact HO2.out⟩, ⟨HB2.out⟩⟩
                case measure => simp [intOf]; omega
            · have hke1 : decide ((k : Int) < en) = false := decide_eq_false hke
              rw [hke1, Bool.false_and] at hk0
              have HOK := Aside0.mk hk0
              clear hk0 hrd hrd2 hxe hye hx hy
              go_wp2_with fail
              go_quiet (first | (go_at_call 15; refine (HE.out _ (pw_below_drewN HB.out _)).mono fun _ _ h => ⟨h.1, ?_⟩; obtain ⟨q, hq⟩ := h.2; exact ⟨_, by rw [hq, World.drewN_drewN]⟩))
              obtain ⟨W2, hW2⟩ : ∃ W2, wr.drewN nq = W2 := ⟨_, rfl⟩
              have HO2 := Aside0.mk (show W2.ownsRow w.heap.size 3 1 u5 (rkTo l0 (m : Int) k).length ((rkTo l0 (m : Int) k).map (.int .i64)) by rw [← hW2]; exact HO.out)
              have HB2 := Aside0.mk (show Below w.heap.size w W2 by rw [← hW2]; exact pw_below_drewN HB.out _)
              rw [hW2]
              clear hW2
              go_wp2
              go_roundw
              case rel => exact ⟨k + 1, by go_num, by omega, ⟨by rw [rkTo_no HOK.out]; exact HO2.out⟩, ⟨HB2.out⟩⟩
              case measure => simp [intOf]; omega
          · have hkm1 : decide (m < k) = false := decide_eq_false (by omega)
            rw [show decide ((k : Int) > m) = false from decide_eq_false hkm, Bool.false_and] at hk0
            have HOK := Aside0.mk hk0
            clear hk0 hrd hrd2 hxe hye hx hy
            go_wp2_with fail
            go_quiet (fail)
            obtain ⟨W2, hW2⟩ : ∃ W2, wr.drewN nq = W2 := ⟨_, rfl⟩
            have HO2 := Aside0.mk (show W2.ownsRow w.heap.size 3 1 u5 (rkTo l0 (m : Int) k).length ((rkTo l0 (m : Int) k).map (.int .i64)) by rw [← hW2]; exact HO.out)
            have HB2 := Aside0.mk (show Below w.heap.size w W2 by rw [← hW2]; exact pw_below_drewN HB.out _)
            rw [hW2]
            clear hW2
            go_wp2
            go_roundw
            case rel => exact ⟨k + 1, by go_num, by omega, ⟨by rw [rkTo_no HOK.out]; exact HO2.out⟩, ⟨HB2.out⟩⟩
            case measure => simp [intOf]; omega
      · obtain rfl : k = l0.length := by omega
        have hlz : ¬ (l0.length : Int) < (l0.length : Int) := by omega
        go_wp2
        go_ret
        exact ⟨_, rfl, Kd.R_of_own HO.out (fun _ _ => trivial), HB.out⟩
end Go.Proofs.YtpnhjipaeggcpaaDoor.X
end
section
namespace Go.Proofs.YtpnhjipaeggcpaaDoor.X
open Go.RowKit Go.Proofs.YtpnhjipaeggcpaaDoorW.PrintWords Go.Proofs.YtpnhjipaeggcpaaDoorW.PrintLast Go.Proofs.YtpnhjipaeggcpaaDoorW.PrintMore
attribute [local go_sem] max2_int min2_int max_two min_two max_three min_three max_four min_four
def boltingref05_Raw.f  : Option (List ByteArray) := some (([(⟨#[105, 102, 114, 97, 109, 101]⟩ : ByteArray), (⟨#[110, 111, 101, 109, 98, 101, 100]⟩ : ByteArray), (⟨#[110, 111, 102, 114, 97, 109, 101, 115]⟩ : ByteArray), (⟨#[115, 99, 114, 105, 112, 116]⟩ : ByteArray), (⟨#[115, 116, 121, 108, 101]⟩ : ByteArray), (⟨#[120, 109, 112]⟩ : ByteArray)] : List ByteArray))
set_option maxHeartbeats 8000000 in
set_option maxRecDepth 100000 in
theorem boltingref05_Raw.calls  (r : List ByteArray) (w : World) (h : boltingref05_Raw.f  = some r) :
  Calls Tryd.prog 22 #[] w fun e w' => ∃ v0_ : Value, e = .returned (v0_) ∧ Kd.R Kd.string 9 w' w.heap.size (fun _ => True) v0_ r ∧ Below w.heap.size w w' := by
 have HB := Aside0.mk (Below.refl w.heap.size w)
 have H : (some (([(⟨#[105, 102, 114, 97, 109, 101]⟩ : ByteArray), (⟨#[110, 111, 101, 109, 98, 101, 100]⟩ : ByteArray), (⟨#[110, 111, 102, 114, 97, 109, 101, 115]⟩ : ByteArray), (⟨#[115, 99, 114, 105, 112, 116]⟩ : ByteArray), (⟨#[115, 116, 121, 108, 101]⟩ : ByteArray), (⟨#[120, 109, 112]⟩ : ByteArray)] : List ByteArray))) = some r := h
 clear h
 obtain ⟨y125, hy125⟩ : ∃ y_ : List ByteArray, y_ = (([(⟨#[105, 102, 114, 97, 109, 101]⟩ : ByteArray), (⟨#[110, 111, 101, 109, 98, 101, 100]⟩ : ByteArray), (⟨#[110, 111, 102, 114, 97, 109, 101, 115]⟩ : ByteArray), (⟨#[115, 99, 114, 105, 112, 116]⟩ : ByteArray), (⟨#[115, 116, 121, 108, 101]⟩ : ByteArray), (⟨#[120, 109, 112]⟩ : ByteArray)] : List ByteArray)) := ⟨_, rfl⟩
 replace H : (some y125) = some r := by first | (rw [hy125]; with_reducible exact H) | (have H2_ := (Option.bind_some _ _).symm.trans H; rw [hy125]; with_reducible exact H2_) | (have H2_ := (Option.bind_some _ _).symm.trans H; with_reducible exact H2_) | with_reducible exact H | (rw [hy125]; exact H) | exact H
 have Ny125 := Aside0.mk hy125
 clear hy125
 obtain rfl := Option.some.inj H
 go_enter Tryd.func22, Tryd.ntmps22
 go_wp2_with (first | ((with_reducible refine gate_dst (N := 1) rfl ?_); refine Kd.R_lit Kd.string _ 9 ?hg (N := 1) ?hd (xs := ([(⟨#[105, 102, 114, 97, 109, 101]⟩ : ByteArray), (⟨#[110, 111, 101, 109, 98, 101, 100]⟩ : ByteArray), (⟨#[110, 111, 102, 114, 97, 109, 101, 115]⟩ : ByteArray), (⟨#[115, 99, 114, 105, 112, 116]⟩ : ByteArray), (⟨#[115, 116, 121, 108, 101]⟩ : ByteArray), (⟨#[120, 109, 112]⟩ : ByteArray)] : List ByteArray)) (inner := [.string (⟨#[105, 102, 114, 97, 109, 101]⟩ : ByteArray), .string (⟨#[110, 111, 101, 109, 98, 101, 100]⟩ : ByteArray), .string (⟨#[110, 111, 102, 114, 97, 109, 101, 115]⟩ : ByteArray), .string (⟨#[115, 99, 114, 105, 112, 116]⟩ : ByteArray), .string (⟨#[115, 116, 121, 108, 101]⟩ : ByteArray), .string (⟨#[120, 109, 112]⟩ : ByteArray)]) (ok := fun _ => True) (okp := fun _ => True) ?hr ?hp (fun _ hk => hk) trivial (Below.refl _ _) (Nat.le_refl _) (by simp) ?_; (case hd => rfl); (case hg => rfl); (case hr => first | (go_simp; done) | (go_simp; rfl)); (case hp => exact (Reps.one (show Kd.M Kd.string _ _ _ (⟨#[105, 102, 114, 97, 109, 101]⟩ : ByteArray) [.string (⟨#[105, 102, 114, 97, 109, 101]⟩ : ByteArray)] from rfl) (Reps.one (show Kd.M Kd.string _ _ _ (⟨#[110, 111, 101, 109, 98, 101, 100]⟩ : ByteArray) [.string (⟨#[110, 111, 101, 109, 98, 101, 100]⟩ : ByteArray)] from rfl) (Reps.one (show Kd.M Kd.string _ _ _ (⟨#[110, 111, 102, 114, 97, 109, 101, 115]⟩ : ByteArray) [.string (⟨#[110, 111, 102, 114, 97, 109, 101, 115]⟩ : ByteArray)] from rfl) (Reps.one (show Kd.M Kd.string _ _ _ (⟨#[115, 99, 114, 105, 112, 116]⟩ : ByteArray) [.string (⟨#[115, 99, 114, 105, 112, 116]⟩ : ByteArray)] from rfl) (Reps.one (show Kd.M Kd.string _ _ _ (⟨#[115, 116, 121, 108, 101]⟩ : ByteArray) [.string (⟨#[115, 116, 121, 108, 101]⟩ : ByteArray)] from rfl) (Reps.one (show Kd.M Kd.string _ _ _ (⟨#[120, 109, 112]⟩ : ByteArray) [.string (⟨#[120, 109, 112]⟩ : ByteArray)] from rfl) (Reps.none _ _)))))))); intro v126 w1 ho2 hb hg_ hnew_; clear hg_ hnew_; (first | rw [← Ny125.out] at ho2 | (simp only [Int.reduceToNat] at ho2; rw [← Ny125.out] at ho2)); have n0_ := Aside0.mk (Kd.R_lower ho2 (below_size y13_)); have n1_ := Aside0.mk (below_step y13_ hb); clear HB; have HO127 := n0_; have HB := n1_; clear n0_ n1_; clear hb ho2))
 go_ret
 exact ⟨_, y11_, by (with_reducible repeat (first | apply Kd.R_alloc | apply Kd.R_drewN | apply Kd.R_drew)); exact HO127.out, y13_⟩
end Go.Proofs.YtpnhjipaeggcpaaDoor.X
end
section
namespace Go.Proofs.YtpnhjipaeggcpaaDoor.X
open Go.RowKit Go.Proofs.YtpnhjipaeggcpaaDoorW.PrintWords Go.Proofs.YtpnhjipaeggcpaaDoorW.PrintLast Go.Proofs.YtpnhjipaeggcpaaDoorW.PrintMore
attribute [local go_sem] max2_int min2_int max_two min_two max_three min_three max_four min_four
def boltingref05_Void.f  : Option (List ByteArray) := some (([(⟨#[97, 114, 101, 97]⟩ : ByteArray), (⟨#[98, 97, 115, 101]⟩ : ByteArray), (⟨#[98, 114]⟩ : ByteArray), (⟨#[99, 111, 108]⟩ : ByteArray), (⟨#[101, 109, 98, 101, 100]⟩ : ByteArray), (⟨#[104, 114]⟩ : ByteArray), (⟨#[105, 109, 103]⟩ : ByteArray), (⟨#[105, 110, 112, 117, 116]⟩ : ByteArray), (⟨#[108, 105, 110, 107]⟩ : ByteArray), (⟨#[109, 101, 116, 97]⟩ : ByteArray), (⟨#[112, 97, 114, 97, 109]⟩ : ByteArray), (⟨#[115, 111, 117, 114, 99, 101]⟩ : ByteArray), (⟨#[116, 114, 97, 99, 107]⟩ : ByteArray), (⟨#[119, 98, 114]⟩ : ByteArray)] : List ByteArray))
set_option maxHeartbeats 8000000 in
set_option maxRecDepth 100000 in
theorem boltingref05_Void.calls  (r : List ByteArray) (w : World) (h : boltingref05_Void.f  = some r) :
  Calls Tryd.prog 24 #[] w fun e w' => ∃ v0_ : Value, e = .returned (v0_) ∧ Kd.R Kd.string 9 w' w.heap.size (fun _ => True) v0_ r ∧ Below w.heap.size w w' := by
 have HB := Aside0.mk (Below.refl w.heap.size w)
 have H : (some (([(⟨#[97, 114, 101, 97]⟩ : ByteArray), (⟨#[98, 97, 115, 101]⟩ : ByteArray), (⟨#[98, 114]⟩ : ByteArray), (⟨#[99, 111, 108]⟩ : ByteArray), (⟨#[101, 109, 98, 101, 100]⟩ : ByteArray), (⟨#[104, 114]⟩ : ByteArray), (⟨#[105, 109, 103]⟩ : ByteArray), (⟨#[105, 110, 112, 117, 116]⟩ : ByteArray), (⟨#[108, 105, 110, 107]⟩ : ByteArray), (⟨#[109, 101, 116, 97]⟩ : ByteArray), (⟨#[112, 97, 114, 97, 109]⟩ : ByteArray), (⟨#[115, 111, 117, 114, 99, 101]⟩ : ByteArray), (⟨#[116, 114, 97, 99, 107]⟩ : ByteArray), (⟨#[119, 98, 114]⟩ : ByteArray)] : List ByteArray))) = some r := h
 clear h
 obtain ⟨y158, hy158⟩ : ∃ y_ : List ByteArray, y_ = (([(⟨#[97, 114, 101, 97]⟩ : ByteArray), (⟨#[98, 97, 115, 101]⟩ : ByteArray), (⟨#[98, 114]⟩ : ByteArray), (⟨#[99, 111, 108]⟩ : ByteArray), (⟨#[101, 109, 98, 101, 100]⟩ : ByteArray), (⟨#[104, 114]⟩ : ByteArray), (⟨#[105, 109, 103]⟩ : ByteArray), (⟨#[105, 110, 112, 117, 116]⟩ : ByteArray), (⟨#[108, 105, 110, 107]⟩ : ByteArray), (⟨#[109, 101, 116, 97]⟩ : ByteArray), (⟨#[112, 97, 114, 97, 109]⟩ : ByteArray), (⟨#[115, 111, 117, 114, 99, 101]⟩ : ByteArray), (⟨#[116, 114, 97, 99, 107]⟩ : ByteArray), (⟨#[119, 98, 114]⟩ : ByteArray)] : List ByteArray)) := ⟨_, rfl⟩
 replace H : (some y158) = some r := by first | (rw [hy158]; with_reducible exact H) | (have H2_ := (Option.bind_some _ _).symm.trans H; rw [hy158]; with_reducible exact H2_) | (have H2_ := (Option.bind_some _ _).symm.trans H; with_reducible exact H2_) | with_reducible exact H | (rw [hy158]; exact H) | exact H
 have Ny158 := Aside0.mk hy158
 clear hy158
 obtain rfl := Option.some.inj H
 go_enter Tryd.func24, Tryd.ntmps24
 go_wp2_with (first | ((with_reducible refine gate_dst (N := 1) rfl ?_); refine Kd.R_lit Kd.string _ 9 ?hg (N := 1) ?hd (xs := ([(⟨#[97, 114, 101, 97]⟩ : ByteArray), (⟨#[98, 97, 115, 101]⟩ : ByteArray), (⟨#[98, 114]⟩ : ByteArray), (⟨#[99, 111, 108]⟩ : ByteArray), (⟨#[101, 109, 98, 101, 100]⟩ : ByteArray), (⟨#[104, 114]⟩ : ByteArray), (⟨#[105, 109, 103]⟩ : ByteArray), (⟨#[105, 110, 112, 117, 116]⟩ : ByteArray), (⟨#[108, 105, 110, 107]⟩ : ByteArray), (⟨#[109, 101, 116, 97]⟩ : ByteArray), (⟨#[112, 97, 114, 97, 109]⟩ : ByteArray), (⟨#[115, 111, 117, 114, 99, 101]⟩ : ByteArray), (⟨#[116, 114, 97, 99, 107]⟩ : ByteArray), (⟨#[119, 98, 114]⟩ : ByteArray)] : List ByteArray)) (inner := [.string (⟨#[97, 114, 101, 97]⟩ : ByteArray), .string (⟨#[98, 97, 115, 101]⟩ : ByteArray), .string (⟨#[98, 114]⟩ : ByteArray), .string (⟨#[99, 111, 108]⟩ : ByteArray), .string (⟨#[101, 109, 98, 101, 100]⟩ : ByteArray), .string (⟨#[104, 114]⟩ : ByteArray), .string (⟨#[105, 109, 103]⟩ : ByteArray), .string (⟨#[105, 110, 112, 117, 116]⟩ : ByteArray), .string (⟨#[108, 105, 110, 107]⟩ : ByteArray), .string (⟨#[109, 101, 116, 97]⟩ : ByteArray), .string (⟨#[112, 97, 114, 97, 109]⟩ : ByteArray), .string (⟨#[115, 111, 117, 114, 99, 101]⟩ : ByteArray), .string (⟨#[116, 114, 97, 99, 107]⟩ : ByteArray), .string (⟨#[119, 98, 114]⟩ : ByteArray)]) (ok := fun _ => True) (okp := fun _ => True) ?hr ?hp (fun _ hk => hk) trivial (Below.refl _ _) (Nat.le_refl _) (by simp) ?_; (case hd => rfl); (case hg => rfl); (case hr => first | (go_simp; done) | (go_simp; rfl)); (case hp => exact (Reps.one (show Kd.M Kd.string _ _ _ (⟨#[97, 114, 101, 97]⟩ : ByteArray) [.string (⟨#[97, 114, 101, 97]⟩ : ByteArray)] from rfl) (Reps.one (show Kd.M Kd.string _ _ _ (⟨#[98, 97, 115, 101]⟩ : ByteArray) [.string (⟨#[98, 97, 115, 101]⟩ : ByteArray)] from rfl) (Reps.one (show Kd.M Kd.string _ _ _ (⟨#[98, 114]⟩ : ByteArray) [.string (⟨#[98, 114]⟩ : ByteArray)] from rfl) (Reps.one (show Kd.M Kd.string _ _ _ (⟨#[99, 111, 108]⟩ : ByteArray) [.string (⟨#[99, 111, 108]⟩ : ByteArray)] from rfl) (Reps.one (show Kd.M Kd.string _ _ _ (⟨#[101, 109, 98, 101, 100]⟩ : ByteArray) [.string (⟨#[101, 109, 98, 101, 100]⟩ : ByteArray)] from rfl) (Reps.one (show Kd.M Kd.string _ _ _ (⟨#[104, 114]⟩ : ByteArray) [.string (⟨#[104, 114]⟩ : ByteArray)] from rfl) (Reps.one (show Kd.M Kd.string _ _ _ (⟨#[105, 109, 103]⟩ : ByteArray) [.string (⟨#[105, 109, 103]⟩ : ByteArray)] from rfl) (Reps.one (show Kd.M Kd.string _ _ _ (⟨#[105, 110, 112, 117, 116]⟩ : ByteArray) [.string (⟨#[105, 110, 112, 117, 116]⟩ : ByteArray)] from rfl) (Reps.one (show Kd.M Kd.string _ _ _ (⟨#[108, 105, 110, 107]⟩ : ByteArray) [.string (⟨#[108, 105, 110, 107]⟩ : ByteArray)] from rfl) (Reps.one (show Kd.M Kd.string _ _ _ (⟨#[109, 101, 116, 97]⟩ : ByteArray) [.string (⟨#[109, 101, 116, 97]⟩ : ByteArray)] from rfl) (Reps.one (show Kd.M Kd.string _ _ _ (⟨#[112, 97, 114, 97, 109]⟩ : ByteArray) [.string (⟨#[112, 97, 114, 97, 109]⟩ : ByteArray)] from rfl) (Reps.one (show Kd.M Kd.string _ _ _ (⟨#[115, 111, 117, 114, 99, 101]⟩ : ByteArray) [.string (⟨#[115, 111, 117, 114, 99, 101]⟩ : ByteArray)] from rfl) (Reps.one (show Kd.M Kd.string _ _ _ (⟨#[116, 114, 97, 99, 107]⟩ : ByteArray) [.string (⟨#[116, 114, 97, 99, 107]⟩ : ByteArray)] from rfl) (Reps.one (show Kd.M Kd.string _ _ _ (⟨#[119, 98, 114]⟩ : ByteArray) [.string (⟨#[119, 98, 114]⟩ : ByteArray)] from rfl) (Reps.none _ _)))))))))))))))); intro v159 w1 ho2 hb hg_ hnew_; clear hg_ hnew_; (first | rw [← Ny158.out] at ho2 | (simp only [Int.reduceToNat] at ho2; rw [← Ny158.out] at ho2)); have n0_ := Aside0.mk (Kd.R_lower ho2 (below_size y13_)); have n1_ := Aside0.mk (below_step y13_ hb); clear HB; have HO160 := n0_; have HB := n1_; clear n0_ n1_; clear hb ho2))
 go_ret
 exact ⟨_, y11_, by (with_reducible repeat (first | apply Kd.R_alloc | apply Kd.R_drewN | apply Kd.R_drew)); exact HO160.out, y13_⟩
end Go.Proofs.YtpnhjipaeggcpaaDoor.X
end
