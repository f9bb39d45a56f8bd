/- A part of a proof, put together by this session's own program out of its texts. -/
import Derived.Test.YtpnhjipaeggcpaaDoorD3
import Derived.Laws.EntriesVeiled
import Derived.WalkMore
import Derived.Deep.WholeRow
import Derived.Laws.RangeAny
import Derived.Laws.Runes
import Derived.Lib.MapLaws
import Derived.Lib.DecodeN
set_option linter.unusedVariables false
set_option linter.unusedSimpArgs false
section
namespace Go.Proofs.YtpnhjipaeggcpaaDoor.X
open Go.RowKit Go.Proofs.YtpnhjipaeggcpaaDoorW.PrintWords Go.Proofs.YtpnhjipaeggcpaaDoorW.PrintLast Go.Proofs.YtpnhjipaeggcpaaDoorW.PrintMore
def Keep8 (b : Nat) (W W' : World) : Prop := W.heap.size ≤ W'.heap.size ∧ ∀ (k : Nat) (o : Obj), W.heap[k]? = some o → k ≠ b → (∀ cur fz, o ≠ .cells cur 5 fz) → W'.heap[k]? = some o
theorem Keep8.refl (b : Nat) (W : World) : Keep8 b W W := ⟨Nat.le_refl _, fun _ _ h _ _ => h⟩
theorem Keep8.trans {b : Nat} {A B C : World} (h : Keep8 b A B) (k : Keep8 b B C) : Keep8 b A C := ⟨Nat.le_trans h.1 k.1, fun i o hi hb ho => k.2 i o (h.2 i o hi hb ho) hb ho⟩
theorem Keep8.below {b : Nat} {A B : World} (h : Below A.heap.size A B) : Keep8 b A B := ⟨h.size, fun k o hk _ _ => (h.block k (Array.getElem?_eq_some_iff.1 hk).1).trans hk⟩
theorem Keep8.set (W : World) (b i : Nat) {v : Value} : Keep8 b W (W.setCell ⟨b, i, none⟩ v) := ⟨by simp, fun k o hk hb _ => (Below.heap_setCell W ⟨b, i, none⟩ v k hb).trans hk⟩
theorem Keep8.grown {b : Nat} {A B : World} {row : Option Nat} (hg : A.grownBy B row) (hr : ∀ k, row = some k → ∃ cur fz, A.heap[k]? = some (.cells cur 5 fz)) : Keep8 b A B :=
  ⟨hg.size, fun k o hk _ ho => (hg.block k (Array.getElem?_eq_some_iff.1 hk).1 (fun e => by
    obtain ⟨cur, fz, hc⟩ := hr k e.symm
    rw [hk] at hc
    exact ho cur fz (Option.some.inj hc))).trans hk⟩
theorem own8 {w : World} {B : Nat} {v : Value} {n : Nat} {xs : List Value} (h : w.ownsRow B 5 1 v n xs) {k : Nat} (hk : v.ownBlock = some k) : ∃ cur fz, w.heap[k]? = some (.cells cur 5 fz) := by
  rcases h.2 with ⟨rfl, _⟩ | ⟨g, cp, cur, rfl, _, hc, _⟩
  · cases hk
  · cases hk; exact ⟨cur, _, hc⟩
theorem copyCheck_more (B b : Nat) (bs : List Value) (w : World) (h : Bld B b bs w) :
    Calls Tryd.prog 61 #[.pointer (some ⟨b, 0, none⟩)] w fun e w' => e = .returned (.tuple #[]) ∧ (Lib.BuilderAt 54 5 B b (.pointer (some ⟨b, 0, none⟩)) bs w' ∧ Below B w w' ∧ Keep8 b w w') := by
  rcases h with h | h
  · refine (copyCheck_fresh b w h.cell0 h.shape h.frozen0).mono ?_
    rintro e w' ⟨rfl, rfl⟩
    exact ⟨rfl, h.used _, (Below.refl B w).setCell (p := ⟨b, 0, none⟩) h.1 _, Keep8.set _ _ _⟩
  · refine (copyCheck_used b w h.cell0).mono ?_
    rintro e w' ⟨rfl, rfl⟩
    exact ⟨rfl, h, Below.refl B _, Keep8.refl _ _⟩
set_option maxHeartbeats 2000000 in
set_option maxRecDepth 100000 in
theorem writeString_more (B b : Nat) (bs : List Value) (s : ByteArray) (w : World) (h : Bld B b bs w) (hlen : bs.length + s.size ≤ 140737488355328) (hBw : B ≤ w.heap.size) :
    Calls Tryd.prog 37 #[.pointer (some ⟨b, 0, none⟩), .string s] w fun e w' => e = .returned (.tuple #[.int .i64 s.size, .nilIface]) ∧ (Bld B b (bs ++ Lib.strCells s) w' ∧ Below B w w' ∧ Keep8 b w w') := by
  obtain ⟨i0, hi, hz0, hz1, hz2⟩ := info_parts bld_byte
  have u72 := Tryd.underlying54
  go_enter Tryd.func37, Tryd.ntmps37
  go_wp2_with (go_at_call 61; refine (copyCheck_more B b bs _ h).mono ?_)
  rintro e w1 ⟨rfl, h1, hb1, hk1⟩
  obtain ⟨hB, v, hbk, hown, hne⟩ := h1
  have c0 : w1.cell? ⟨b, 0, none⟩ = some (.pointer (some ⟨b, 0, none⟩)) := by rw [Lib.cell_of_heap hbk]; rfl
  have c1 : w1.cell? ⟨b, 1, none⟩ = some v := by rw [Lib.cell_of_heap hbk]; rfl
  go_wp2_with (at_builtin; refine Lib.wpList_append_own_string _ rfl _ _ 52 9 rfl B 5 i0 Tryd.underlying52 Tryd.underlying9 hi hz0 hz1 hz2 _ _ _ rfl hown s rfl ?c3 ?c4 ?c5 ?_)
  case c3 => unfold maxLen; omega
  case c4 => omega
  case c5 => have := hb1.size; omega
  intro v' w2 hown' hgrow _
  have hlt : b < w1.heap.size := (Array.getElem?_eq_some_iff.1 hbk).1
  have hb2 : w2.heap[b]? = some (.cells #[.pointer (some ⟨b, 0, none⟩), v] 54 (0, 0)) := by
    rw [hgrow.block b hlt (fun e => hne e.symm)]
    exact hbk
  have d0 : w2.cell? ⟨b, 0, none⟩ = some (.pointer (some ⟨b, 0, none⟩)) := by rw [Lib.cell_of_heap hb2]; rfl
  have d1 : w2.cell? ⟨b, 1, none⟩ = some v := by rw [Lib.cell_of_heap hb2]; rfl
  have f1 : w2.frozen? ⟨b, 1, none⟩ = false := Lib.frozen_of_heap hb2 1
  obtain ⟨ao, n', cap, rfl⟩ : ∃ ao n' cap, v' = .slice ao n' cap := by
    rcases hown'.2 with ⟨hv, _⟩ | ⟨g, cap, cur, hv, _⟩
    · exact ⟨_, _, _, hv⟩
    · exact ⟨_, _, _, hv⟩
  go_wp2
  go_ret2
  refine ⟨rfl, Bld.used ?_, ?_, (hk1.trans (Keep8.grown hgrow (fun k hk => own8 hown hk))).trans (Keep8.set _ _ _)⟩
  · exact Lib.BuilderAt.put (T := 54) (e := 5) hB hb2 (bs' := bs ++ Lib.strCells s) (by simpa [Lib.strCells_length] using hown') (by decide)
  · exact (hb1.grown hgrow (by have := hb1.size; omega) (fun k hk => (hown.lt k hk).1)).setCell (p := ⟨b, 1, none⟩) hB _
def wPut (acc : List UInt8) (s : ByteArray) : Option (List UInt8) := if acc.length + s.size ≤ 140737488355328 then some (acc ++ s.data.toList) else none
def wNode (l : List S35) : Nat → Int → Bool → List UInt8 → Option (List UInt8)
  | 0, _, _, _ => none
  | g + 1, k, raw, acc =>
    if 0 ≤ k ∧ k < (l.length : Int) then
      (if (rd_T35 l k).f1 = 1 then (if raw = true then wPut acc (rd_T35 l k).f3 else (refs_Text.f (rd_T35 l k).f3).bind (wPut acc))
      else if (rd_T35 l k).f1 = 2 then (if 4 + (rd_T35 l k).f3.size + 3 ≤ 9223372036854775807 then wPut acc ((⟨#[60, 33, 45, 45]⟩ : ByteArray) ++ (rd_T35 l k).f3 ++ (⟨#[45, 45, 62]⟩ : ByteArray)) else none)
      else if (rd_T35 l k).f1 = 0 then
        (write_opened.f ((rd_T35 l k).f4.length + 1) (rd_T35 l k).f0 (rd_T35 l k).f1 (rd_T35 l k).f2 (rd_T35 l k).f3 (rd_T35 l k).f4).bind fun s => (wPut acc s).bind fun a1 =>
          (names_Void.f 64 (rd_T35 l k).f2).bind fun v => if v = true then some a1 else
            (names_Raw.f 64 (rd_T35 l k).f2).bind fun q => (rows_Kids.f l k).bind fun ks => (ks.foldlM (fun a j => wNode l g j q a) a1).bind fun a2 =>
              if 2 + (rd_T35 l k).f2.size + 1 ≤ 9223372036854775807 then wPut a2 ((⟨#[60, 47]⟩ : ByteArray) ++ (rd_T35 l k).f2 ++ (⟨#[62]⟩ : ByteArray)) else none
      else some acc)
    else none
def wIn (l : List S35) (g : Nat) (k : Int) (raw : Bool) (acc : List UInt8) : Option (List UInt8) := (rows_Kids.f l k).bind fun ks => ks.foldlM (fun a j => wNode l g j raw a) acc
def write_written.f (l0 : List S35) (a1 : Int) : Option ByteArray :=
  (if a1 ≥ 0 then (if a1 < (l0.length : Int) then names_Raw.f 64 (rd_T35 l0 a1).f2 else none) else if a1 = -1 then some false else none).bind fun raw => (wIn l0 (l0.length + 1) a1 raw []).bind fun out => some ⟨out.toArray⟩
structure WInv (A : Option Addr) (n c b : Nat) (w W : World) (acc : List UInt8) : Prop where
  below : Below b w W
  l : W.heap[b]? = some (.cells #[.slice A n c] 22 (0, 0))
  node : W.heap[b + 2]? = some (.cells #[.func (.func 36) #[] #[.pointer (some ⟨b, 0, none⟩), .pointer (some ⟨b + 1, 0, none⟩), .pointer (some ⟨b + 3, 0, none⟩)]] 55 (0, 0))
  within : W.heap[b + 3]? = some (.cells #[.func (.func 34) #[] #[.pointer (some ⟨b, 0, none⟩), .pointer (some ⟨b + 2, 0, none⟩)]] 55 (0, 0))
  bld : Bld (b + 1) (b + 1) (Lib.byteCells acc) W
theorem WInv.step {A : Option Addr} {n c b : Nat} {w W W' : World} {acc acc' : List UInt8} (h : WInv A n c b w W acc) (hb : Below b W W') (hk : Keep8 (b + 1) W W') (hbld : Bld (b + 1) (b + 1) (Lib.byteCells acc') W') : WInv A n c b w W' acc' :=
  ⟨h.below.trans hb, hk.2 _ _ h.l (by omega) (fun _ _ e => by cases e), hk.2 _ _ h.node (by omega) (fun _ _ e => by cases e), hk.2 _ _ h.within (by omega) (fun _ _ e => by cases e), hbld⟩
theorem Bld.move {B b : Nat} {bs : List Value} {W W' : World} (h : Bld B b bs W) (hb : Below W.heap.size W W') : Bld B b bs W' := by
  have hAt : ∀ p, Lib.BuilderAt 54 5 B b p bs W → Lib.BuilderAt 54 5 B b p bs W' := fun p h => by
    obtain ⟨hB, v, hbk, hown, hne⟩ := h
    exact ⟨hB, v, (hb.block b (Array.getElem?_eq_some_iff.1 hbk).1).trans hbk, own_move hown (fun k hk => hb.block k (hown.lt k hk).2), hne⟩
  exact h.elim (fun h => .inl (hAt _ h)) (fun h => .inr (hAt _ h))
theorem ints_keep {b base : Nat} {W W' : World} {v : Value} {ks : List Int} (h : Kd.R (Kd.int .i64) 3 W base (fun _ => True) v ks) (hb : b < base) (hk : Keep8 b W W') : Kd.R (Kd.int .i64) 3 W' base (fun _ => True) v ks := by
  have h2 := Kd.R_bound h
  refine Kd.R_mono (Kd.R_move h2 (fun k hk2 => ?_)) (fun _ _ => trivial)
  obtain ⟨_, h3, _, q, hq, cells, hc⟩ := hk2
  have hq2 : q = 3 := by simpa [Kd.int, Kd.scalar] using hq
  subst hq2
  rw [hc]
  exact hk.2 _ _ hc (by omega) (fun _ _ e => by cases e)
set_option maxHeartbeats 4000000 in
set_option maxRecDepth 100000 in
theorem within_ok (A : Option Addr) (c : Nat) (l : List S35) (w : World) (hC : Kd.C k35 w A l.length l) (hc : l.length ≤ c) (g : Nat)
    (hnode : ∀ (j : Int) (raw : Bool) (acc acc' : List UInt8) (W : World), WInv A l.length c w.heap.size w W acc → wNode l g j raw acc = some acc' →
      Calls Tryd.prog 36 #[.int .i64 j, .bool raw, .pointer (some ⟨w.heap.size, 0, none⟩), .pointer (some ⟨w.heap.size + 1, 0, none⟩), .pointer (some ⟨w.heap.size + 3, 0, none⟩)] W fun e W' => e = .returned (.tuple #[]) ∧ WInv A l.length c w.heap.size w W' acc' ∧ Keep8 (w.heap.size + 1) W W')
    (k : Int) (raw : Bool) (acc acc' : List UInt8) (W : World) (hI : WInv A l.length c w.heap.size w W acc) (h : wIn l g k raw acc = some acc') :
    Calls Tryd.prog 34 #[.int .i64 k, .bool raw, .pointer (some ⟨w.heap.size, 0, none⟩), .pointer (some ⟨w.heap.size + 2, 0, none⟩)] W fun e W' => e = .returned (.tuple #[]) ∧ WInv A l.length c w.heap.size w W' acc' ∧ Keep8 (w.heap.size + 1) W W' := by
  obtain ⟨ks, hks, hfold⟩ := Option.bind_eq_some_iff.1 h
  clear h
  have hkc := rows_Kids.calls A c l k ks W (Kd.C_below hC hI.below) hc hks
  have cl := kids_block hI.l rfl
  have hsz : w.heap.size + 3 < W.heap.size := (Array.getElem?_eq_some_iff.1 hI.within).1
  have HI := Aside0.mk hI
  have HN := Aside0.mk hnode
  clear hI hnode hks hC
  go_enter Tryd.func34, Tryd.ntmps34
  go_wp2_with (go_at_call 35; refine hkc.mono ?_; clear hkc; rintro e W1 ⟨v, rfl, hR, hb⟩; obtain ⟨Ak, ck, rfl⟩ := Kd.R_slice hR)
  have hI1 := HI.out.step (hb.mono (by omega)) (Keep8.below hb) (HI.out.bld.move hb)
  have HB1 := Aside0.mk (Keep8.below (b := w.heap.size + 1) hb)
  have HR := Aside0.mk (Kd.R_lower hR (show w.heap.size + 2 ≤ W.heap.size by omega))
  have hmax : ks.length ≤ 9223372036854775807 := (Kd.R_reads' hR).2.2.2.1
  clear hR hb cl
  go_loopw [7, 12] (fun _ x wr => ∃ (i : Nat) (a1 : List UInt8), x = .int .i64 i ∧ i ≤ ks.length ∧ Aside0 (WInv A l.length c w.heap.size w wr a1) ∧ Aside0 ((ks.drop i).foldlM (fun a j => wNode l g j raw a) a1 = some acc') ∧ Aside0 (Keep8 (w.heap.size + 1) W1 wr)) (fun _ x _ => ks.length - (intOf x).toNat)
  case atStart => exact ⟨0, acc, rfl, Nat.zero_le _, ⟨hI1⟩, ⟨hfold⟩, ⟨Keep8.refl _ _⟩⟩
  case round =>
    obtain ⟨i, a1, rfl, hi, HW, HF, HK⟩ := hrel
    by_cases hlt : i < ks.length
    · have hlz : (i : Int) < (ks.length : Int) := by omega
      obtain ⟨x, hx, hxe⟩ := getD_at hlt
      have hf := HF.out
      rw [List.drop_eq_getElem_cons hlt, hxe, List.foldlM_cons] at hf
      obtain ⟨a2, h2, hf2⟩ := Option.bind_eq_some_iff.1 hf
      have hnc := HN.out x raw a1 a2 wr HW.out h2
      obtain ⟨ad, e, cx⟩ := int_at (Kd.R_reads' (ints_keep HR.out (by omega) HK.out)).2.2 hx
      cases e
      have cn := kids_block HW.out.node rfl
      have HF2 := Aside0.mk hf2
      clear hx hxe hf h2 hf2
      go_wp2_with (go_at_call 36; refine hnc.mono ?_; clear hnc; rintro e W3 ⟨rfl, hI3, hk3⟩)
      have HI3 := Aside0.mk hI3
      have HK3 := Aside0.mk (HK.out.trans hk3)
      go_roundw
      case rel => exact ⟨i + 1, a2, by go_num, by omega, HI3, HF2, HK3⟩
      case measure => simp [intOf]; omega
    · obtain rfl : i = ks.length := by omega
      have hlz : ¬ (ks.length : Int) < (ks.length : Int) := by omega
      have hf := HF.out
      rw [List.drop_eq_nil_of_le (Nat.le_refl _), List.foldlM_nil] at hf
      cases hf
      go_wp2
      go_end0
      exact ⟨rfl, HW.out, HB1.out.trans HK.out⟩
theorem cells_put (acc : List UInt8) (s : ByteArray) : Lib.byteCells acc ++ Lib.strCells s = Lib.byteCells (acc ++ s.data.toList) := by
  rw [show Lib.strCells s = Lib.byteCells s.data.toList from rfl]; simp [Lib.byteCells]
theorem put_ok {A : Option Addr} {n c : Nat} {w W : World} {acc acc' : List UInt8} (s : ByteArray) (hI : WInv A n c w.heap.size w W acc) (h : wPut acc s = some acc') :
    Calls Tryd.prog 37 #[.pointer (some ⟨w.heap.size + 1, 0, none⟩), .string s] W fun e W' => e = .returned (.tuple #[.int .i64 s.size, .nilIface]) ∧ WInv A n c w.heap.size w W' acc' ∧ Keep8 (w.heap.size + 1) W W' := by
  unfold wPut at h
  split at h
  case isFalse => cases h
  rename_i hlen
  cases h
  have hsz : w.heap.size + 3 < W.heap.size := (Array.getElem?_eq_some_iff.1 hI.within).1
  refine (writeString_more (w.heap.size + 1) (w.heap.size + 1) (Lib.byteCells acc) s W hI.bld (by rw [Lib.byteCells_length]; exact hlen) (by omega)).mono ?_
  rintro e W' ⟨rfl, h1, h2, h3⟩
  exact ⟨rfl, hI.step (h2.mono (by omega)) h3 (by rw [← cells_put]; exact h1), h3⟩
theorem WInv.move {A : Option Addr} {n c b : Nat} {w W W' : World} {acc : List UInt8} (h : WInv A n c b w W acc) (hb : Below W.heap.size W W') : WInv A n c b w W' acc :=
  h.step (hb.mono (by have := (Array.getElem?_eq_some_iff.1 h.within).1; omega)) (Keep8.below hb) (h.bld.move hb)
set_option maxHeartbeats 8000000 in
set_option maxRecDepth 100000 in
theorem node_ok (A : Option Addr) (c : Nat) (l : List S35) (w : World) (hC : Kd.C k35 w A l.length l) (hc : l.length ≤ c) : ∀ (g : Nat) (k : Int) (raw : Bool) (acc acc' : List UInt8) (W : World), WInv A l.length c w.heap.size w W acc → wNode l g k raw acc = some acc' →
      Calls Tryd.prog 36 #[.int .i64 k, .bool raw, .pointer (some ⟨w.heap.size, 0, none⟩), .pointer (some ⟨w.heap.size + 1, 0, none⟩), .pointer (some ⟨w.heap.size + 3, 0, none⟩)] W fun e W' => e = .returned (.tuple #[]) ∧ WInv A l.length c w.heap.size w W' acc' ∧ Keep8 (w.heap.size + 1) W W'
  | 0, _, _, _, _, _, _, h => by cases h
  | g + 1, k, raw, acc, acc', W, hI, h => by
    have ih := within_ok A c l w hC hc g (node_ok A c l w hC hc g)
    have hu := Tryd.underlying35
    rw [wNode] at h
    split at h
    case isFalse => cases h
    rename_i hk
    obtain ⟨kk, rfl⟩ := Int.eq_ofNat_of_zero_le hk.1
    have hlt : kk < l.length := by omega
    have hlz : (kk : Int) < (l.length : Int) := by omega
    obtain ⟨⟨xd, xk, xn, xt, xa⟩, hx, hxe⟩ := getD_at hlt
    have hrd : rd_T35 l (kk : Int) = ⟨xd, xk, xn, xt, xa⟩ := by simp [rd_T35, hx]
    rw [hrd] at h
    obtain ⟨ad, A4, c4, e, x0, x1, x2, x3, x4, l4, hC4⟩ := row_at (Kd.C_below hC hI.below) hx
    cases e
    dsimp only at *
    have cl := kids_block hI.l rfl
    have hI2 := hI.move ((Below.refl W.heap.size W).alloc (Nat.le_refl _) (.cells #[.int .i64 xd, .int .i64 xk, .string xn, .string xt, .slice A4 xa.length c4] 35))
    have hk2 := Keep8.below (b := w.heap.size + 1) ((Below.refl W.heap.size W).alloc (Nat.le_refl _) (.cells #[.int .i64 xd, .int .i64 xk, .string xn, .string xt, .slice A4 xa.length c4] 35))
    have HI2 := Aside0.mk hI2
    have HK2 := Aside0.mk hk2
    clear hI2 hk2 hx hxe hrd hC
    by_cases h1 : xk = 1
    · subst h1
      rw [if_pos rfl] at h
      cases raw with
      | true =>
        rw [if_pos rfl] at h
        have hp := put_ok xt HI2.out h
        go_enter Tryd.func36, Tryd.ntmps36
        go_wp2_with (go_at_call 37; refine hp.mono ?_; clear hp; rintro e W3 ⟨rfl, hI3, hk3⟩)
        go_end0
        exact ⟨rfl, hI3, HK2.out.trans hk3⟩
      | false =>
        rw [if_neg (by decide)] at h
        obtain ⟨s, hs, hput⟩ := Option.bind_eq_some_iff.1 h
        have ht := refs_Text.calls xt s (W.alloc (.cells #[.int .i64 xd, .int .i64 1, .string xn, .string xt, .slice A4 xa.length c4] 35)) hs
        have hp := fun W3 hb => put_ok s (HI2.out.move (W' := W3) hb) hput
        go_enter Tryd.func36, Tryd.ntmps36
        go_wp2_with (first | (go_at_call 38; refine ht.mono ?_; clear ht; rintro e W3 ⟨rfl, hb3⟩) | (go_at_call 37; refine (hp W3 hb3).mono ?_; clear hp; rintro e W4 ⟨rfl, hI3, hk3⟩))
        go_end0
        exact ⟨rfl, hI3, (HK2.out.trans (Keep8.below hb3)).trans hk3⟩
    · rw [if_neg h1] at h
      have h1b : (xk == 1) = false := beq_eq_false_iff_ne.mpr h1
      by_cases h2 : xk = 2
      · subst h2
        rw [if_pos rfl] at h
        split at h
        case isFalse => cases h
        rename_i hsz
        have hp := put_ok _ HI2.out h
        have hs1 : (9223372036854775807 < 4 + xt.size) = False := eq_false (by omega)
        have hs2 : (9223372036854775807 < 4 + xt.size + 3) = False := eq_false (by omega)
        go_enter Tryd.func36, Tryd.ntmps36
        go_wp2_with (go_at_call 37; refine hp.mono ?_; clear hp; rintro e W3 ⟨rfl, hI3, hk3⟩)
        go_end0
        exact ⟨rfl, hI3, HK2.out.trans hk3⟩
      · rw [if_neg h2] at h
        have h2b : (xk == 2) = false := beq_eq_false_iff_ne.mpr h2
        by_cases h0 : xk = 0
        · subst h0
          rw [if_pos rfl] at h
          obtain ⟨s, hs, h⟩ := Option.bind_eq_some_iff.1 h
          obtain ⟨a1, ha1, h⟩ := Option.bind_eq_some_iff.1 h
          obtain ⟨v, hv, h⟩ := Option.bind_eq_some_iff.1 h
          have hbx2 : (W.alloc (.cells #[.int .i64 xd, .int .i64 0, .string xn, .string xt, .slice A4 xa.length c4] 35)).heap[W.heap.size]? = some (.cells #[.int .i64 xd, .int .i64 0, .string xn, .string xt, .slice A4 xa.length c4] 35 (0, 0)) := World.alloc_heap_new W _
          have ho := write_opened.calls (xa.length + 1) xd 0 xn xt A4 c4 xa s (W.alloc (.cells #[.int .i64 xd, .int .i64 0, .string xn, .string xt, .slice A4 xa.length c4] 35)) (Kd.C_below hC4 ((Below.refl _ W).alloc (Nat.le_refl _) _)) l4 hs
          have hp := fun W3 hb => put_ok s (HI2.out.move (W' := W3) hb) ha1
          have hvd := fun W4 => names_Void.calls 64 xn v W4 hv
          have hsz : w.heap.size + 3 < W.heap.size := (Array.getElem?_eq_some_iff.1 hI.within).1
          clear hs ha1 hv hC4
          cases v with
          | true =>
            rw [if_pos rfl] at h
            cases h
            go_enter Tryd.func36, Tryd.ntmps36
            go_wp2_with (first | (go_at_call 39; refine ho.mono ?_; clear ho; rintro e W3 ⟨rfl, hb3⟩) | (go_at_call 37; refine (hp W3 hb3).mono ?_; clear hp; rintro e W4 ⟨rfl, hI4, hk4⟩; have hbx4 := hk4.2 _ _ ((hb3.block _ (by simp)).trans hbx2) (by omega) (fun _ _ e => by cases e); have n4 : W4.cell? ⟨W.heap.size, 2, none⟩ = some (.string xn) := (blk_cell hbx4 2).trans rfl) | (go_at_call 26; refine (hvd W4).mono ?_; clear hvd; rintro e W5 ⟨rfl, hb5⟩))
            go_end0
            exact ⟨rfl, hI4.move hb5, ((HK2.out.trans (Keep8.below hb3)).trans hk4).trans (Keep8.below hb5)⟩
          | false =>
            rw [if_neg (by decide)] at h
            obtain ⟨q, hq, h⟩ := Option.bind_eq_some_iff.1 h
            obtain ⟨ks, hks, h⟩ := Option.bind_eq_some_iff.1 h
            obtain ⟨a2, ha2, h⟩ := Option.bind_eq_some_iff.1 h
            split at h
            case isFalse => cases h
            rename_i hns
            have hs1 : (9223372036854775807 < 2 + xn.size) = False := eq_false (by omega)
            have hs2 : (9223372036854775807 < 2 + xn.size + 1) = False := eq_false (by omega)
            have hwi := fun V hV => ih (kk : Int) q a1 a2 V hV (show wIn l g (kk : Int) q a1 = some a2 by unfold wIn; rw [hks]; exact ha2)
            have hrw := fun V => names_Raw.calls 64 xn q V hq
            have hpe := fun V (hV : WInv (some ad) l.length c w.heap.size w V a2) => put_ok _ hV h
            clear ih hq hks ha2 h
            go_enter Tryd.func36, Tryd.ntmps36
            go_wp2_with (first | (go_at_call 39; refine ho.mono ?_; clear ho; rintro e W3 ⟨rfl, hb3⟩) | (go_at_call 37; refine (hp W3 hb3).mono ?_; clear hp; rintro e W4 ⟨rfl, hI4, hk4⟩; have hbx4 := hk4.2 _ _ ((hb3.block _ (by simp)).trans hbx2) (by omega) (fun _ _ e => by cases e); have n4 : W4.cell? ⟨W.heap.size, 2, none⟩ = some (.string xn) := (blk_cell hbx4 2).trans rfl) | (go_at_call 26; refine (hvd W4).mono ?_; clear hvd; rintro e W5 ⟨rfl, hb5⟩))
            have hI5 := hI4.move hb5
            have hbx5 := (hb5.block _ (Array.getElem?_eq_some_iff.1 hbx4).1).trans hbx4
            have n5 : W5.cell? ⟨W.heap.size, 2, none⟩ = some (.string xn) := (blk_cell hbx5 2).trans rfl
            have w5 := kids_block hI5.within rfl
            have HI5 := Aside0.mk hI5
            have HBX5 := Aside0.mk hbx5
            have HK5 := Aside0.mk (((HK2.out.trans (Keep8.below hb3)).trans hk4).trans (Keep8.below hb5))
            clear hI5 hbx5 hI4 hk4 hb3 hb5 hbx4 hbx2 n4 x0 x1 x2 x3 x4 cl
            go_region_with (first | (go_at_call 40; refine (hrw _).mono ?_; rintro e W6 ⟨rfl, hb6⟩; have hI6 := HI5.out.move (W' := W6) ⟨hb6.os, hb6.tape, hb6.output, hb6.size, hb6.block⟩; have w6 := kids_block hI6.within rfl; have hk6 := Keep8.below (b := w.heap.size + 1) (A := W5) (B := W6) ⟨hb6.os, hb6.tape, hb6.output, hb6.size, hb6.block⟩) | (go_at_call 34; refine (hwi _ hI6).mono ?_; rintro e W7 ⟨rfl, hI7, hk7⟩))
            all_goals
              have hbx7 := hk7.2 _ _ (hk6.2 _ _ HBX5.out (by omega) (fun _ _ e => by cases e)) (by omega) (fun _ _ e => by cases e)
              have n7 : W7.cell? ⟨W.heap.size, 2, none⟩ = some (.string xn) := (blk_cell hbx7 2).trans rfl
              have HK7 := Aside0.mk ((HK5.out.trans hk6).trans hk7)
              have hp7 := hpe W7 hI7
              clear hk6 hk7 hbx7 hb6 hpe w6 hI6
              go_wp2_with (go_at_call 37; refine hp7.mono ?_; clear hp7; rintro e W8 ⟨rfl, hI8, hk8⟩)
              go_end0
              exact ⟨rfl, hI8, HK7.out.trans hk8⟩
        · rw [if_neg h0] at h
          have h0b : (xk == 0) = false := beq_eq_false_iff_ne.mpr h0
          cases h
          go_enter Tryd.func36, Tryd.ntmps36
          go_wp2
          go_end0
          exact ⟨rfl, HI2.out, HK2.out⟩
end Go.Proofs.YtpnhjipaeggcpaaDoor.X
end
section
namespace Go.Proofs.YtpnhjipaeggcpaaDoor.X
open Go.RowKit Go.Proofs.YtpnhjipaeggcpaaDoorW.PrintWords Go.Proofs.YtpnhjipaeggcpaaDoorW.PrintLast Go.Proofs.YtpnhjipaeggcpaaDoorW.PrintMore
theorem w64 {n : Int} (h0 : -9223372036854775808 ≤ n) (h1 : n ≤ 9223372036854775807) : wrap64 n = n := by unfold wrap64; omega
theorem w64n {n : Nat} (h1 : n + 1 ≤ 9223372036854775807) : wrap64 ((n : Int) + 1) = ((n + 1 : Nat) : Int) := by unfold wrap64; omega
def bs (l : List UInt8) : ByteArray := ⟨l.toArray⟩
theorem bs_app (a b : List UInt8) : bs a ++ bs b = bs (a ++ b) := by
  apply ByteArray.ext
  simp [bs]
theorem bs_size (l : List UInt8) : (bs l).size = l.length := by simp [bs, ByteArray.size]
theorem bs_data (l : List UInt8) : (bs l).data.toList = l := rfl
theorem size_eq (s : ByteArray) : s.size = s.data.toList.length := (Array.length_toList).symm
theorem ext1 (s : ByteArray) (j : Nat) (h : j < s.size) : s.extract j (j + 1) = bs [s[j]] := by
  apply ByteArray.ext
  rw [ByteArray.data_extract]
  apply Array.ext'
  have h2 : j < s.data.toList.length := by rw [← size_eq]; exact h
  rw [Array.toList_extract, List.extract_eq_take_drop]
  rw [List.drop_eq_getElem_cons h2, show j + 1 - j = 1 by omega]
  simp [bs]
  rfl
def inB (l : List ByteArray) (s : ByteArray) : Bool := l.any fun x => x.toList == s.toList
theorem rdOf_at {l : List ByteArray} {j : Nat} (h : j < l.length) : rdOf ByteArray.empty l (j : Int) = l[j] := by simp [rdOf, h]
theorem among_loop (l : List ByteArray) (a : ByteArray) (hl : l.length ≤ 4611686018427387904) : ∀ (k j : Nat), j ≤ l.length → l.length - j < k → names_among.l0 k a l (l.length : Int) (j : Int) = some (inB (l.drop j) a)
  | 0, j, hj, hk => by omega
  | k + 1, j, hj, hk => by
    rw [names_among.l0]
    by_cases hlt : j < l.length
    · rw [if_pos (by omega), if_pos (by omega), if_pos (by omega), rdOf_at hlt, List.drop_eq_getElem_cons hlt, w64n (by omega)]
      unfold inB
      rw [List.any_cons]
      by_cases he : l[j].toList = a.toList
      · rw [if_pos he]; simp [he]
      · rw [if_neg he, among_loop l a hl k (j + 1) (by omega) (by omega)]
        simp [he, inB]
    · rw [if_neg (by omega), List.drop_eq_nil_of_le (by omega)]; rfl
theorem among_is (l : List ByteArray) (a : ByteArray) (hl : l.length ≤ 4611686018427387904) {k : Nat} (hk : l.length < k) : names_among.f k a l = some (inB l a) := by
  have := among_loop l a hl k 0 (Nat.zero_le _) (by omega)
  exact this
def ints (l : List UInt8) : List Int := l.map fun c => (c.toNat : Int)
theorem ints_app (a b : List UInt8) : ints (a ++ b) = ints a ++ ints b := List.map_append
theorem ints_length (a : List UInt8) : (ints a).length = a.length := List.length_map _
theorem bytesOf_bs (l : List UInt8) : bytesOf (bs l) = ints l := rfl
theorem strOf_ints (l : List UInt8) : strOfNums (ints l) = bs l := by
  unfold strOfNums ints bs
  rw [List.map_map]
  congr 2
  apply (List.map_congr_left (g := id) ?_).trans (List.map_id _)
  intro c _
  simp
theorem bt_here (s : ByteArray) (j : Nat) (h : j < s.size) : bt s (j : Int) = (s[j].toNat : Int) := by simp [bt, h]
theorem drop_here (s : ByteArray) (j : Nat) (h : j < s.size) : s.data.toList.drop j = s[j] :: s.data.toList.drop (j + 1) := by
  rw [List.drop_eq_getElem_cons (show j < s.data.toList.length from h)]; rfl
theorem u8i {c : UInt8} {n : Nat} (hn : n < 256) : ((c.toNat : Int) = n) ↔ c = UInt8.ofNat n := by
  constructor
  · intro h; exact u8_of h hn
  · rintro rfl
    rw [UInt8.toNat_ofNat', Nat.mod_eq_of_lt hn]
theorem write_loop (s : ByteArray) (q : Bool) (hs : 6 * s.size ≤ 140737488355300) : ∀ (k j : Nat) (out : List UInt8), j ≤ s.size → s.size - j < k → out.length ≤ 6 * j →
    boltingref03_Write.l0 k s q (ints out) (j : Int) = some (bs (out ++ escAll q (s.data.toList.drop j)))
  | 0, j, out, hj, hk, ho => by omega
  | k + 1, j, out, hj, hk, ho => by
    rw [boltingref03_Write.l0]
    by_cases hlt : j < s.size
    · have hstep : ∀ t : List UInt8, t.length ≤ 6 → escAll q (s.data.toList.drop j) = t ++ escAll q (s.data.toList.drop (j + 1)) → boltingref03_Write.l0 k s q (ints out ++ bytesOf (bs t)) ((j + 1 : Nat) : Int) = some (bs (out ++ escAll q (s.data.toList.drop j))) := fun t ht he => by
        rw [bytesOf_bs, ← ints_app, write_loop s q hs k (j + 1) (out ++ t) (by omega) (by omega) (by rw [List.length_append]; omega), he, List.append_assoc]
      rw [if_pos (by omega), if_pos (by omega), w64n (by omega), if_pos (by omega), if_pos (by omega), bt_here s j hlt]
      have hext : s.extract ((j : Int)).toNat (((j + 1 : Nat) : Int)).toNat = bs [s[j]] := ext1 s j hlt
      rw [hext, ints_length, bs_size]
      have hd := drop_here s j hlt
      generalize hc : s[j] = c at *
      by_cases h1 : c = 38
      · subst h1; rw [if_pos (by decide), if_pos (by omega)]
        exact hstep [38, 97, 109, 112, 59] (by decide) (by rw [hd, escAll_cons _ _ _ (by rintro ⟨h, _⟩; cases h)]; rfl)
      rw [if_neg (by rw [show ((38 : Int)) = ((38 : Nat) : Int) from rfl, u8i (by decide)]; exact h1)]
      by_cases h2 : c = 60
      · subst h2; rw [if_pos (by decide), if_pos (by omega)]
        exact hstep [38, 108, 116, 59] (by decide) (by rw [hd, escAll_cons _ _ _ (by rintro ⟨h, _⟩; cases h)]; rfl)
      rw [if_neg (by rw [show ((60 : Int)) = ((60 : Nat) : Int) from rfl, u8i (by decide)]; exact h2)]
      by_cases h3 : c = 62
      · subst h3; rw [if_pos (by decide), if_pos (by omega)]
        exact hstep [38, 103, 116, 59] (by decide) (by rw [hd, escAll_cons _ _ _ (by rintro ⟨h, _⟩; cases h)]; rfl)
      rw [if_neg (by rw [show ((62 : Int)) = ((62 : Nat) : Int) from rfl, u8i (by decide)]; exact h3)]
      by_cases h4 : c = 34
      · subst h4; rw [if_pos (by decide)]
        cases q with
        | true =>
          rw [if_pos rfl, if_pos (by omega)]
          exact hstep [38, 113, 117, 111, 116, 59] (by decide) (by rw [hd, escAll_cons _ _ _ (by rintro ⟨h, _⟩; cases h)]; rfl)
        | false =>
          rw [if_neg (by decide), if_pos (by simp only [List.length_singleton]; omega)]
          exact hstep [34] (by decide) (by rw [hd, escAll_cons _ _ _ (by rintro ⟨h, _⟩; cases h)]; rfl)
      rw [if_neg (by rw [show ((34 : Int)) = ((34 : Nat) : Int) from rfl, u8i (by decide)]; exact h4)]
      have hplain : ¬ (c = 194 ∧ ∃ t, s.data.toList.drop (j + 1) = 160 :: t) → escAll q (s.data.toList.drop j) = [c] ++ escAll q (s.data.toList.drop (j + 1)) := fun hn => by
        rw [hd, escAll_cons _ _ _ hn]
        congr 1
        simp [esc, h1, h2, h3, h4]
      by_cases h5 : c = 194
      · subst h5; rw [if_pos (by decide)]
        by_cases hlt2 : j + 1 < s.size
        · rw [if_pos (by omega), if_pos (by omega), bt_here s (j + 1) hlt2]
          have hd2 := drop_here s (j + 1) hlt2
          by_cases h6 : s[j + 1] = 160
          · rw [h6] at hd2
            rw [h6, if_pos (by decide), if_pos (by omega), w64n (by omega)]
            rw [show bytesOf (⟨#[38, 110, 98, 115, 112, 59]⟩ : ByteArray) = ints [38, 110, 98, 115, 112, 59] from rfl, ← ints_app, write_loop s q hs k (j + 1 + 1) (out ++ [38, 110, 98, 115, 112, 59]) (by omega) (by omega) (by simp; omega)]
            rw [hd, hd2, escAll_nbsp, List.append_assoc]
          · rw [if_neg (by rw [show ((160 : Int)) = ((160 : Nat) : Int) from rfl, u8i (by decide)]; exact h6), if_pos (by simp only [List.length_singleton]; omega)]
            exact hstep [194] (by decide) (hplain (by rintro ⟨_, t, ht⟩; rw [hd2] at ht; injection ht with ht _; exact h6 ht))
        · rw [if_neg (by omega), if_pos (by simp only [List.length_singleton]; omega)]
          exact hstep [194] (by decide) (hplain (by rintro ⟨_, t, ht⟩; rw [List.drop_eq_nil_of_le (by rw [← size_eq]; omega)] at ht; cases ht))
      rw [if_neg (by rw [show ((194 : Int)) = ((194 : Nat) : Int) from rfl, u8i (by decide)]; exact h5), if_pos (by simp only [List.length_singleton]; omega)]
      exact hstep [c] (by simp) (hplain (fun h => h5 h.1))
    · rw [if_neg (by omega), strOf_ints, List.drop_eq_nil_of_le (by rw [← size_eq]; omega)]
      simp [escAll]
theorem write_is (s : ByteArray) (q : Bool) (hs : 6 * s.size ≤ 140737488355300) {k : Nat} (hk : s.size < k) : boltingref03_Write.f k s q = some (bs (escAll q s.data.toList)) := by
  have := write_loop s q hs k 0 [] (Nat.zero_le _) (by omega) (by simp)
  exact this
theorem written_is (s : ByteArray) (q : Bool) (hs : 6 * s.size ≤ 140737488355300) : refs_written.f s q = some (bs (escAll q s.data.toList)) := by
  unfold refs_written.f
  rw [if_pos (by omega)]; rfl
theorem text_is (s : ByteArray) (hs : 6 * s.size ≤ 140737488355300) : refs_Text.f s = some (bs (escAll false s.data.toList)) := by unfold refs_Text.f; rw [written_is s _ hs]; rfl
theorem value_is (s : ByteArray) (hs : 6 * s.size ≤ 140737488355300) : refs_Value.f s = some (bs (escAll true s.data.toList)) := by unfold refs_Value.f; rw [written_is s _ hs]; rfl
theorem escAll_length (q : Bool) : ∀ (n : Nat) (l : List UInt8), l.length ≤ n → (escAll q l).length ≤ 6 * l.length
  | 0, l, hn => by
    obtain rfl := List.length_eq_zero_iff.1 (Nat.le_zero.1 hn)
    simp [escAll]
  | n + 1, l, hn => by
    cases l with
    | nil => simp [escAll]
    | cons c r =>
      by_cases h : c = 194 ∧ ∃ t, r = 160 :: t
      · obtain ⟨rfl, t, rfl⟩ := h
        rw [escAll_nbsp, List.length_append]
        have := escAll_length q n t (by simp at hn; omega)
        simp; omega
      · rw [escAll_cons q c r h, List.length_append]
        have := escAll_length q n r (by simpa using hn)
        have := esc_length q c
        simp; omega
def attrTxt (a : S41) : List UInt8 := [32] ++ a.f0.data.toList ++ [61, 34] ++ escAll true a.f1.data.toList ++ [34]
def openTxt (n : ByteArray) (l : List S41) : List UInt8 := [60] ++ n.data.toList ++ l.flatMap attrTxt ++ [62]
def AttrSmall (a : S41) : Prop := a.f0.size ≤ 1048576 ∧ a.f1.size ≤ 1048576
theorem attr_bs (n : ByteArray) (t : List UInt8) : (((((⟨#[32]⟩ : ByteArray) ++ n) ++ (⟨#[61, 34]⟩ : ByteArray)) ++ bs t) ++ (⟨#[34]⟩ : ByteArray)) = bs ([32] ++ n.data.toList ++ [61, 34] ++ t ++ [34]) := by
  apply ByteArray.ext
  simp [bs]
theorem attrTxt_length (a : S41) (h : AttrSmall a) : (attrTxt a).length ≤ 7340036 := by
  have h1 := escAll_length true _ a.f1.data.toList (Nat.le_refl _)
  have h2 := h.1
  have h3 := h.2
  rw [size_eq] at h2 h3
  simp [attrTxt]
  simp at h1 h2 h3
  omega
theorem rdA_at {l : List S41} {j : Nat} (h : j < l.length) : rd_T41 l (j : Int) = l[j] := by simp [rd_T41, h]
theorem tag_loop (f0 f1 : Int) (f2 f3 : ByteArray) (l : List S41) (hl : l.length ≤ 1048576) (hsm : ∀ a ∈ l, AttrSmall a) : ∀ (d k j : Nat) (out : List UInt8), j + d = l.length → 1048577 + d < k → out.length ≤ 1048577 + 7340036 * j →
    boltingref08_tag.l0 k (bs out) (j : Int) f0 f1 f2 f3 l = some (bs (out ++ (l.drop j).flatMap attrTxt ++ [62]))
  | 0, k, j, out, hj, hk, ho => by
    obtain ⟨k, rfl⟩ : ∃ m, k = m + 1 := ⟨k - 1, by omega⟩
    rw [boltingref08_tag.l0, if_neg (by omega), bs_size, if_pos (by omega), List.drop_eq_nil_of_le (by omega), show (⟨#[62]⟩ : ByteArray) = bs [62] from rfl, bs_app]
    simp
  | d + 1, k, j, out, hj, hk, ho => by
    obtain ⟨k, rfl⟩ : ∃ m, k = m + 1 := ⟨k - 1, by omega⟩
    have hlt : j < l.length := by omega
    obtain ⟨h1, h2⟩ := hsm l[j] (List.getElem_mem hlt)
    have hz := attrTxt_length l[j] ⟨h1, h2⟩
    have he := escAll_length true _ l[j].f1.data.toList (Nat.le_refl _)
    rw [← size_eq] at he
    rw [boltingref08_tag.l0, if_pos (by omega), if_pos (by omega), rdA_at hlt, if_pos (by omega), if_pos (by simp only [ByteArray.size_append, lit_size, List.length_cons, List.length_nil]; omega), write_is _ _ (by omega) (by omega), Option.bind_some]
    rw [attr_bs, ← attrTxt]
    rw [if_pos (by simp only [ByteArray.size_append, bs_size, lit_size, List.length_cons, List.length_nil]; omega), if_pos (by simp only [ByteArray.size_append, bs_size, lit_size, List.length_cons, List.length_nil]; omega), if_pos (by simp only [bs_size]; omega), w64n (by omega), bs_app]
    rw [tag_loop f0 f1 f2 f3 l hl hsm d k (j + 1) _ (by omega) (by omega) (by rw [List.length_append]; omega), List.drop_eq_getElem_cons hlt, List.flatMap_cons]
    simp
theorem tag_is (f0 f1 : Int) (f2 f3 : ByteArray) (l : List S41) (hn : f2.size ≤ 1048576) (hl : l.length ≤ 1048576) (hsm : ∀ a ∈ l, AttrSmall a) {k : Nat} (hk : 2097153 < k) : boltingref08_tag.f k f0 f1 f2 f3 l = some (bs (openTxt f2 l)) := by
  unfold boltingref08_tag.f
  rw [if_pos (by omega)]
  have := tag_loop f0 f1 f2 f3 l hl hsm l.length k 0 ([60] ++ f2.data.toList) (by omega) (by omega) (by rw [List.length_append, ← size_eq]; simp; omega)
  rw [List.drop_zero] at this
  exact this
theorem opened_loop (l : List S41) (hl : l.length ≤ 1048576) (hsm : ∀ a ∈ l, AttrSmall a) : ∀ (d k j : Nat) (out : List UInt8), j + d = l.length → d < k → out.length ≤ 1048577 + 7340036 * j →
    write_opened.l0 k (bs out) l (l.length : Int) (j : Int) = some (bs (out ++ (l.drop j).flatMap attrTxt ++ [62]))
  | 0, k, j, out, hj, hk, ho => by
    obtain ⟨k, rfl⟩ : ∃ m, k = m + 1 := ⟨k - 1, by omega⟩
    rw [write_opened.l0, if_neg (by omega), bs_size, if_pos (by omega), List.drop_eq_nil_of_le (by omega), show (⟨#[62]⟩ : ByteArray) = bs [62] from rfl, bs_app]
    simp
  | d + 1, k, j, out, hj, hk, ho => by
    obtain ⟨k, rfl⟩ : ∃ m, k = m + 1 := ⟨k - 1, by omega⟩
    have hlt : j < l.length := by omega
    obtain ⟨h1, h2⟩ := hsm l[j] (List.getElem_mem hlt)
    have hz := attrTxt_length l[j] ⟨h1, h2⟩
    have he := escAll_length true _ l[j].f1.data.toList (Nat.le_refl _)
    rw [← size_eq] at he
    rw [write_opened.l0, if_pos (by omega), if_pos (by omega), if_pos (by omega), rdA_at hlt, if_pos (by omega), if_pos (by simp only [ByteArray.size_append, lit_size, List.length_cons, List.length_nil]; omega), value_is _ (by omega), Option.bind_some]
    rw [attr_bs, ← attrTxt]
    rw [if_pos (by simp only [ByteArray.size_append, bs_size, lit_size, List.length_cons, List.length_nil]; omega), if_pos (by simp only [ByteArray.size_append, bs_size, lit_size, List.length_cons, List.length_nil]; omega), if_pos (by simp only [bs_size]; omega), w64n (by omega), bs_app]
    rw [opened_loop l hl hsm d k (j + 1) _ (by omega) (by omega) (by rw [List.length_append]; omega), List.drop_eq_getElem_cons hlt, List.flatMap_cons]
    simp
theorem opened_is (f0 f1 : Int) (f2 f3 : ByteArray) (l : List S41) (hn : f2.size ≤ 1048576) (hl : l.length ≤ 1048576) (hsm : ∀ a ∈ l, AttrSmall a) {k : Nat} (hk : l.length < k) : write_opened.f k f0 f1 f2 f3 l = some (bs (openTxt f2 l)) := by
  unfold write_opened.f
  rw [if_pos (by omega)]
  have := opened_loop l hl hsm l.length k 0 ([60] ++ f2.data.toList) (by omega) (by omega) (by rw [List.length_append, ← size_eq]; simp; omega)
  rw [List.drop_zero] at this
  exact this
end Go.Proofs.YtpnhjipaeggcpaaDoor.X
end
section
namespace Go.Proofs.YtpnhjipaeggcpaaDoor.X
open Go.RowKit Go.Proofs.YtpnhjipaeggcpaaDoorW.PrintWords Go.Proofs.YtpnhjipaeggcpaaDoorW.PrintLast Go.Proofs.YtpnhjipaeggcpaaDoorW.PrintMore
abbrev RowT := S35
abbrev AttT := S41
theorem rdR_at {l : List RowT} {j : Nat} (h : j < l.length) : rd_T35 l (j : Int) = l[j] := by simp [rd_T35, h]
def dupIn (l : List AttT) (i j : Nat) : Bool := (List.range' j (i - j)).any fun k => (rd_T41 l (i : Int)).f0.toList == (rd_T41 l (k : Int)).f0.toList
def dupFrom (l : List AttT) (i : Nat) : Bool := (List.range' i (l.length - i)).any fun k => dupIn l k 0
def rowB (x : RowT) : Bool := if x.f1 = 1 ∨ x.f1 = 2 then x.f2.toList == [] && x.f4.length == 0 else !dupFrom x.f4 0 && (decide (x.f1 = 0) && (!(x.f2.toList == []) && x.f3.toList == []))
theorem range'_cons {j n : Nat} (h : j < n) : List.range' j (n - j) = j :: List.range' (j + 1) (n - (j + 1)) := by
  rw [show n - j = (n - (j + 1)) + 1 by omega, List.range'_succ]
theorem evI {α : Type} {g f : Nat → Option α} {r : α} (h : ∀ k, g (k + 1) = f k) (k : Ev f r) : Ev g r := Ev.step h k
theorem evK {α : Type} {g : Nat → Option α} {r : α} (h : ∀ k, g (k + 1) = some r) : Ev g r := Ev.step h (Ev.now r)
theorem evAt {α : Type} {g : Nat → Option α} {r : α} (n : Nat) (h : ∀ k, n < k → g k = some r) : Ev g r := ⟨n + 1, fun k hk => h k hk⟩
theorem rowB_kind {x : RowT} (h : rowB x = true) : x.f1 = 0 ∨ x.f1 = 1 ∨ x.f1 = 2 := by
  unfold rowB at h
  split at h
  · omega
  · simp at h; exact .inl h.2.1
def dep (l : List RowT) (j : Nat) : Int := (rd_T35 l (j : Int)).f0
def knd (l : List RowT) (j : Nat) : Int := (rd_T35 l (j : Int)).f1
def rightAt (l : List RowT) (j : Nat) : Bool :=
  rowB (rd_T35 l (j : Int)) && (decide (0 ≤ dep l j) && (if j = 0 then decide (dep l j = 0) else (decide (dep l j ≤ dep l (j - 1) + 1) && (!decide (dep l j = dep l (j - 1) + 1) || decide (knd l (j - 1) = 0)))))
def rightB (l : List RowT) : Bool := (List.range' 0 l.length).all (rightAt l)
theorem right_deps {l : List RowT} {n : Nat} (h : ∀ i, i < n → rightAt l i = true) : ∀ i, i < n → 0 ≤ dep l i ∧ dep l i ≤ i
  | 0, hi => by
    have := h 0 hi
    simp [rightAt] at this
    omega
  | i + 1, hi => by
    have h1 := h (i + 1) hi
    have h2 := right_deps h i (by omega)
    simp [rightAt] at h1
    omega
theorem right_at {l : List RowT} (h : rightB l = true) {j : Nat} (hj : j < l.length) : rightAt l j = true := by
  unfold rightB at h
  rw [List.all_eq_true] at h
  exact h j (by rw [List.mem_range'_1]; omega)
theorem right_kind {l : List RowT} (h : rightB l = true) {j : Nat} (hj : j < l.length) : knd l j = 0 ∨ knd l j = 1 ∨ knd l j = 2 := by
  have := right_at h hj
  unfold rightAt at this
  rw [Bool.and_eq_true] at this
  exact rowB_kind this.1
theorem right_dep {l : List RowT} (h : rightB l = true) {j : Nat} (hj : j < l.length) : 0 ≤ dep l j ∧ dep l j ≤ j := right_deps (n := l.length) (fun i hi => right_at h hi) j hj
theorem right_next {l : List RowT} (h : rightB l = true) {j : Nat} (hj : j + 1 < l.length) : dep l (j + 1) ≤ dep l j + 1 ∧ (dep l (j + 1) = dep l j + 1 → knd l j = 0) := by
  have := right_at h hj
  simp [rightAt] at this
  refine ⟨this.2.2.1, fun e => this.2.2.2.resolve_left (fun hn => hn e)⟩
end Go.Proofs.YtpnhjipaeggcpaaDoor.X
end
section
namespace Go.Proofs.YtpnhjipaeggcpaaDoor.X
open Go.RowKit Go.Proofs.YtpnhjipaeggcpaaDoorW.PrintWords Go.Proofs.YtpnhjipaeggcpaaDoorW.PrintLast Go.Proofs.YtpnhjipaeggcpaaDoorW.PrintMore
theorem deep_in (d : Int) : ∀ (L : List RowT) (j : Nat), j < runDeep d L → ∃ h : j < L.length, d < L[j].f0
  | [], j, h => by simp [runDeep] at h
  | x :: r, j, h => by
    unfold runDeep at h
    split at h
    · rename_i hx
      cases j with
      | zero => exact ⟨by simp, hx⟩
      | succ j =>
        obtain ⟨h1, h2⟩ := deep_in d r j (by omega)
        exact ⟨by simp; omega, by simpa using h2⟩
    · omega
theorem deep_out (d : Int) : ∀ (L : List RowT) (h : runDeep d L < L.length), L[runDeep d L].f0 ≤ d
  | [], h => by simp at h
  | x :: r, h => by
    by_cases hx : x.f0 > d
    · have e : runDeep d (x :: r) = runDeep d r + 1 := by rw [runDeep, if_pos hx]
      have h1 : runDeep d r < r.length := by rw [e] at h; simpa using h
      have := deep_out d r h1
      simp only [e, List.getElem_cons_succ]
      exact this
    · have e : runDeep d (x :: r) = 0 := by rw [runDeep, if_neg hx]
      simp only [e, List.getElem_cons_zero]
      omega
theorem end_in {l : List RowT} {i j : Nat} (h1 : i < j) (h2 : j < endOf l i) : dep l i < dep l j := by
  unfold endOf at h2
  obtain ⟨h3, h4⟩ := deep_in _ _ (j - (i + 1)) (show j - (i + 1) < runDeep (rd_T35 l (i : Int)).f0 (l.drop (i + 1)) by omega)
  rw [List.length_drop] at h3
  rw [List.getElem_drop] at h4
  have hj : j < l.length := by omega
  unfold dep
  rw [rdR_at hj]
  simpa [show i + 1 + (j - (i + 1)) = j by omega] using h4
theorem end_out {l : List RowT} {i : Nat} (h : endOf l i < l.length) : dep l (endOf l i) ≤ dep l i := by
  have h1 : runDeep (rd_T35 l (i : Int)).f0 (l.drop (i + 1)) < (l.drop (i + 1)).length := by rw [List.length_drop]; unfold endOf at h; omega
  have h2 := deep_out _ _ h1
  rw [List.getElem_drop] at h2
  show (rd_T35 l ((endOf l i : Nat) : Int)).f0 ≤ _
  rw [rdR_at h]
  exact h2
theorem end_nest {l : List RowT} {i j : Nat} (hi : i < l.length) (h1 : i < j) (h2 : j < endOf l i) : endOf l j ≤ endOf l i := by
  have he := endOf_le l i hi
  have hj := endOf_le l j (by omega)
  have h3 := end_in h1 h2
  apply Nat.le_of_not_lt
  intro h
  have h4 := end_in h2 h
  have h5 := end_out (l := l) (i := i) (by omega)
  omega
theorem kidsGo_mem {l : List RowT} {e : Nat} : ∀ {g k : Nat} {j : Int}, j ∈ kidsGo l e g k → ∃ m : Nat, j = (m : Int) ∧ k ≤ m ∧ m < e
  | 0, k, j, h => by simp [kidsGo] at h
  | g + 1, k, j, h => by
    unfold kidsGo at h
    split at h
    · rename_i hk
      rcases List.mem_cons.1 h with rfl | h
      · exact ⟨k, rfl, Nat.le_refl _, hk⟩
      · obtain ⟨m, h1, h2, h3⟩ := kidsGo_mem h
        refine ⟨m, h1, ?_, h3⟩
        unfold endOf at h2
        omega
    · cases h
theorem range'_split {k m e : Nat} (h1 : k < m) (h2 : m ≤ e) : List.range' k (e - k) = k :: (List.range' (k + 1) (m - (k + 1)) ++ List.range' m (e - m)) := by
  rw [show e - k = (e - (k + 1)) + 1 by omega, List.range'_succ]
  congr 1
  rw [show e - (k + 1) = (m - (k + 1)) + (e - m) by omega, ← List.range'_append_1]
  congr 2
  omega
theorem kidsGo_is {l : List RowT} {t : Int} {e b : Nat} (he : e ≤ l.length) (hall : ∀ j, b ≤ j → j < e → t ≤ dep l j) (hnest : ∀ j, b ≤ j → j < e → endOf l j ≤ e) : ∀ (g k : Nat), b ≤ k → e - k ≤ g → (k < e → dep l k = t) →
    kidsGo l e g k = ((List.range' k (e - k)).filter fun j => dep l j == t).map fun (j : Nat) => (j : Int)
  | 0, k, hb, hg, hk => by rw [show e - k = 0 by omega]; rfl
  | g + 1, k, hb, hg, hk => by
    unfold kidsGo
    split
    · rename_i hlt
      have h1 := endOf_le l k (by omega)
      have h2 := hnest k hb hlt
      have hd := hk hlt
      rw [range'_split h1.1 h2, List.filter_cons_of_pos (by simpa using hd), List.map_cons, List.filter_append, List.map_append]
      have hmid : (List.range' (k + 1) (endOf l k - (k + 1))).filter (fun j => dep l j == t) = [] := by
        rw [List.filter_eq_nil_iff]
        intro j hj
        rw [List.mem_range'_1] at hj
        have := end_in (l := l) (i := k) (j := j) (by omega) (by omega)
        simp
        omega
      rw [hmid, List.map_nil, List.nil_append, kidsGo_is he hall hnest g (endOf l k) (by omega) (by omega) (fun h => by
        have h3 := end_out (l := l) (i := k) (by omega)
        have h4 := hall (endOf l k) (by omega) h
        omega)]
    · rw [show e - k = 0 by omega]; rfl
theorem kids_same {l : List RowT} (hr : rightB l = true) (hl : l.length ≤ 4611686018427387904) {i : Int} (hi : i = -1 ∨ (0 ≤ i ∧ i < (l.length : Int))) : rkTo l i l.length = kidsOf l i := by
  rcases hi with rfl | ⟨h0, h1⟩
  · unfold kidsOf
    rw [if_pos rfl, kidsGo_is (t := 0) (b := 0) (Nat.le_refl _) (fun j _ hj => (right_dep hr hj).1) (fun j _ hj => (endOf_le l j hj).2) l.length 0 (Nat.le_refl _) (by omega) (fun h => by have := right_dep hr h; omega)]
    unfold rkTo
    rw [List.range_eq_range', Nat.sub_zero]
    congr 1
  · obtain ⟨m, rfl⟩ := Int.eq_ofNat_of_zero_le h0
    have hm : m < l.length := by omega
    have he := endOf_le l m hm
    have hre : rEnd l (m : Int) = (endOf l m : Int) := by unfold rEnd; rw [if_pos ⟨by omega, by omega⟩]; rfl
    have hdm := right_dep hr hm
    unfold kidsOf
    rw [if_neg (by omega), hre, show ((endOf l m : Nat) : Int).toNat = endOf l m from rfl, show ((m : Nat) : Int).toNat = m from rfl]
    rw [kidsGo_is (t := dep l m + 1) (b := m + 1) he.2 (fun j h1 h2 => by have := end_in (l := l) (i := m) (j := j) (by omega) h2; omega) (fun j h1 h2 => end_nest hm (by omega) h2) l.length (m + 1) (Nat.le_refl _) (by omega) (fun h => by
      have h2 := end_in (l := l) (i := m) (j := m + 1) (by omega) h
      have h3 := right_next hr (j := m) (by omega)
      omega)]
    unfold rkTo
    have hok : ∀ k, rkOk l (m : Int) k = (decide (m < k) && (decide (k < endOf l m) && (dep l k == dep l m + 1))) := fun k => by
      unfold rkOk
      rw [if_neg (by omega), hre]
      have hw : wrap64 ((rd_T35 l (m : Int)).f0 + 1) = dep l m + 1 := by show wrap64 (dep l m + 1) = _; unfold wrap64; omega
      rw [hw]
      congr 1
      · rw [decide_eq_decide]; omega
      · congr 1
        rw [decide_eq_decide]; omega
    have h1 : (List.range' 0 (m + 1)).filter (rkOk l (m : Int)) = [] := by
      rw [List.filter_eq_nil_iff]
      intro j hj
      rw [List.mem_range'_1] at hj
      rw [hok, decide_eq_false (show ¬ m < j by omega)]; simp
    have h3 : (List.range' (endOf l m) (l.length - endOf l m)).filter (rkOk l (m : Int)) = [] := by
      rw [List.filter_eq_nil_iff]
      intro j hj
      rw [List.mem_range'_1] at hj
      rw [hok, decide_eq_false (show ¬ j < endOf l m by omega)]; simp
    have h2 : (List.range' (m + 1) (endOf l m - (m + 1))).filter (rkOk l (m : Int)) = (List.range' (m + 1) (endOf l m - (m + 1))).filter fun j => dep l j == dep l m + 1 := by
      apply List.filter_congr
      intro j hj
      rw [List.mem_range'_1] at hj
      rw [hok, decide_eq_true (show m < j by omega), decide_eq_true (show j < endOf l m by omega)]; simp
    have hs : List.range l.length = List.range' 0 (m + 1) ++ (List.range' (m + 1) (endOf l m - (m + 1)) ++ List.range' (endOf l m) (l.length - endOf l m)) := by
      rw [List.range_eq_range']
      have := range'_split (k := 0) (m := m + 1) (e := l.length) (by omega) (by omega)
      rw [Nat.sub_zero] at this
      rw [this, show List.range' 0 (m + 1) = 0 :: List.range' 1 m from List.range'_succ ..]
      rw [show m + 1 - (0 + 1) = m by omega, List.cons_append]
      congr 2
      have h := range'_split (k := m) (m := endOf l m) (e := l.length) (by omega) (by omega)
      rw [show l.length - m = (l.length - (m + 1)) + 1 by omega, List.range'_succ] at h
      exact (List.cons.inj h).2
    rw [hs, List.filter_append, List.filter_append, h1, h2, h3]
    simp
theorem kidsOf_mem {l : List RowT} {i : Int} (hi : i = -1 ∨ (0 ≤ i ∧ i < (l.length : Int))) {j : Int} (h : j ∈ kidsOf l i) : ∃ m : Nat, j = (m : Int) ∧ i < j ∧ m < l.length := by
  unfold kidsOf at h
  split at h
  · obtain ⟨m, h1, h2, h3⟩ := kidsGo_mem h
    exact ⟨m, h1, by omega, h3⟩
  · obtain ⟨m, h1, h2, h3⟩ := kidsGo_mem h
    obtain ⟨n, rfl⟩ := Int.eq_ofNat_of_zero_le (show 0 ≤ i by omega)
    have he := endOf_le l n (by omega)
    have hre : rEnd l (n : Int) = (endOf l n : Int) := by unfold rEnd; rw [if_pos ⟨by omega, by omega⟩]; rfl
    rw [hre] at h3
    exact ⟨m, h1, by omega, by omega⟩
end Go.Proofs.YtpnhjipaeggcpaaDoor.X
end
section
namespace Go.Proofs.YtpnhjipaeggcpaaDoor.X
open Go.RowKit Go.Proofs.YtpnhjipaeggcpaaDoorW.PrintWords Go.Proofs.YtpnhjipaeggcpaaDoorW.PrintLast Go.Proofs.YtpnhjipaeggcpaaDoorW.PrintMore
def wIns (b : Nat) : Value := .func (.func 34) #[] #[.pointer (some ⟨b, 0, none⟩), .pointer (some ⟨b + 1 + 1, 0, none⟩)]
def wNds (b : Nat) : Value := .func (.func 36) #[] #[.pointer (some ⟨b, 0, none⟩), .pointer (some ⟨b + 1, 0, none⟩), .pointer (some ⟨b + 1 + 1 + 1, 0, none⟩)]
def wBoxes (A : Option Addr) (n c : Nat) (w : World) : World := (((w.alloc (.cells #[.slice A n c] 22)).alloc (.cells #[.pointer none, .slice none 0 0] 54)).alloc (.cells #[wNds w.heap.size] 55)).alloc (.cells #[wIns w.heap.size] 55)
theorem wInv_start (A : Option Addr) (n c : Nat) (w : World) : WInv A n c w.heap.size w (wBoxes A n c w) [] := by
  have h0 := (((Boxed.new w 22 (.slice A n c)).alloc (.cells #[.pointer none, .slice none 0 0] 54)).alloc (.cells #[wNds w.heap.size] 55)).alloc (.cells #[wIns w.heap.size] 55)
  have h1 := World.alloc_heap_new (w.alloc (.cells #[.slice A n c] 22)) (.cells #[.pointer none, .slice none 0 0] 54)
  have h2 := (Boxed.new ((w.alloc (.cells #[.slice A n c] 22)).alloc (.cells #[.pointer none, .slice none 0 0] 54)) 55 (wNds w.heap.size)).alloc (.cells #[wIns w.heap.size] 55)
  have h3 := Boxed.new (((w.alloc (.cells #[.slice A n c] 22)).alloc (.cells #[.pointer none, .slice none 0 0] 54)).alloc (.cells #[wNds w.heap.size] 55)) 55 (wIns w.heap.size)
  simp only [World.size_alloc] at h1 h2 h3
  refine ⟨((((Below.refl _ w).alloc (Nat.le_refl _) _).alloc (by simp) _).alloc (by simp; omega) _).alloc (by simp; omega) _, h0, h2, h3, .inl ⟨Nat.le_refl _, .slice none 0 0, ?_, ⟨rfl, .inl ⟨rfl, rfl⟩⟩, by simp [Value.ownBlock]⟩⟩
  exact (Below.heap_alloc _ _ _ (by simp)).trans ((Below.heap_alloc _ _ _ (by simp)).trans h1)
set_option maxHeartbeats 8000000 in
set_option maxRecDepth 100000 in
theorem write_written.calls (A0 : Option Addr) (c0 : Nat) (l0 : List S35) (a1 : Int) (r : ByteArray) (w : World) (hr0 : Kd.C k35 w A0 l0.length l0) (hc0 : l0.length ≤ c0) (h : write_written.f l0 a1 = some r) :
    Calls Tryd.prog 20 #[.slice A0 l0.length c0, .int .i64 a1] w fun e w' => e = .returned (.string r) ∧ Below w.heap.size w w' := by
  obtain ⟨raw, hraw, h⟩ := Option.bind_eq_some_iff.1 h
  obtain ⟨out, hout, h⟩ := Option.bind_eq_some_iff.1 h
  cases h
  have hu := Tryd.underlying35
  have hwi := fun V hV => within_ok A0 c0 l0 w hr0 hc0 (l0.length + 1) (node_ok A0 c0 l0 w hr0 hc0 (l0.length + 1)) a1 raw [] out V hV hout
  have hI0 := wInv_start A0 l0.length c0 w
  have hst := fun V (hV : WInv A0 l0.length c0 w.heap.size w V out) => string_any (w.heap.size + 1) (w.heap.size + 1) out V hV.bld (by have := (Array.getElem?_eq_some_iff.1 hV.within).1; omega)
  by_cases hneg : a1 ≥ 0
  · rw [if_pos hneg] at hraw
    split at hraw
    case isFalse => cases hraw
    rename_i hlt
    obtain ⟨kk, rfl⟩ := Int.eq_ofNat_of_zero_le hneg
    obtain ⟨⟨xd, xk, xn, xt, xa⟩, hx, hxe⟩ := getD_at (show kk < l0.length by omega)
    have hrd : rd_T35 l0 (kk : Int) = ⟨xd, xk, xn, xt, xa⟩ := by simp [rd_T35, hx]
    rw [hrd] at hraw
    obtain ⟨ad, A4, c4, e, x0, x1, x2, x3, x4, l4, hC4⟩ := row_at (Kd.C_below hr0 hI0.below) hx
    cases e
    dsimp only at *
    have hrw := fun V => names_Raw.calls 64 xn raw V hraw
    clear hx hxe hrd hraw hout hr0 x0 x1 x3 x4 hC4
    go_enter Tryd.func20, Tryd.ntmps20
    go_wp2
    change Code.wp _ _ _ _ (wBoxes (some ad) l0.length c0 w)
    have cl : (wBoxes (some ad) l0.length c0 w).cell? ⟨w.heap.size, 0, none⟩ = _ := kids_block hI0.l rfl
    have cw : (wBoxes (some ad) l0.length c0 w).cell? ⟨w.heap.size + 1 + 1 + 1, 0, none⟩ = _ := kids_block hI0.within rfl
    generalize wBoxes (some ad) l0.length c0 w = W4 at *
    have HI := Aside0.mk hI0
    clear hI0
    go_region_with (first | (go_at_call 40; refine (hrw _).mono ?_; rintro e W6 ⟨rfl, hb6⟩; have hI6 := HI.out.move (W' := W6) ⟨hb6.os, hb6.tape, hb6.output, hb6.size, hb6.block⟩; have w6 : W6.cell? ⟨w.heap.size + 1 + 1 + 1, 0, none⟩ = _ := kids_block hI6.within rfl) | (go_at_call 34; refine (hwi _ hI6).mono ?_; rintro e W7 ⟨rfl, hI7, hk7⟩))
    all_goals
      have hs7 := hst W7 hI7
      have HB7 := Aside0.mk hI7.below
      go_wp2_with (go_at_call 41; refine hs7.mono ?_; clear hs7; rintro e W8 ⟨rfl, hb8⟩)
      go_ret
      exact ⟨rfl, HB7.out.trans (hb8.mono (by omega))⟩
  · rw [if_neg hneg] at hraw
    split at hraw
    case isFalse => cases hraw
    rename_i hm1
    subst hm1
    cases hraw
    go_enter Tryd.func20, Tryd.ntmps20
    go_wp2
    change Code.wp _ _ _ _ (wBoxes A0 l0.length c0 w)
    have cw : (wBoxes A0 l0.length c0 w).cell? ⟨w.heap.size + 1 + 1 + 1, 0, none⟩ = _ := kids_block hI0.within rfl
    generalize wBoxes A0 l0.length c0 w = W4 at *
    have hI1 : WInv A0 l0.length c0 w.heap.size w W4.drew [] := hI0.move (Below.refl _ W4).drew
    go_still_tail 12, (by kernel_rfl)
    change wpList _ _ _ _ _ W4.drew
    generalize W4.drew = W5 at *
    go_wp2_with (go_at_call 34; refine (hwi _ hI1).mono ?_; rintro e W7 ⟨rfl, hI7, hk7⟩)
    all_goals
      have hs7 := hst W7 hI7
      have HB7 := Aside0.mk hI7.below
      go_wp2_with (go_at_call 41; refine hs7.mono ?_; clear hs7; rintro e W8 ⟨rfl, hb8⟩)
      go_ret
      exact ⟨rfl, HB7.out.trans (hb8.mono (by omega))⟩
end Go.Proofs.YtpnhjipaeggcpaaDoor.X
end
section
namespace Go.Proofs.YtpnhjipaeggcpaaDoor.X
open Go.RowKit Go.Proofs.YtpnhjipaeggcpaaDoorW.PrintWords Go.Proofs.YtpnhjipaeggcpaaDoorW.PrintLast Go.Proofs.YtpnhjipaeggcpaaDoorW.PrintMore
attribute [local go_sem] max2_int min2_int max_two min_two max_three min_three max_four min_four
def write_Rows.f (l0 : List (S35)) : Option (ByteArray) := (write_written.f l0 (-1)).bind fun t123 => (some t123)
set_option maxHeartbeats 8000000 in
set_option maxRecDepth 100000 in
theorem write_Rows.calls (A0 : Option Addr) (c0 : Nat) (l0 : List (S35)) (r : ByteArray) (w : World) (hr0 : Kd.C k35 w A0 l0.length l0) (hc0 : l0.length ≤ c0) (h : write_Rows.f l0 = some r) :
  Calls Tryd.prog 9 #[.slice A0 l0.length c0] w fun e w' => e = .returned (.string r) ∧ Below w.heap.size w w' := by
 have HR0 := Aside0.mk hr0
 have HC0 := Aside0.mk hc0
 clear hr0 hc0
 have HB := Aside0.mk (Below.refl w.heap.size w)
 have H : ((write_written.f l0 (-1)).bind fun t123 => (some t123)) = some r := h
 clear h
 replace H := Option.bind_eq_some_iff.mp H
 obtain ⟨t123, A20, H⟩ := H
 have A2 := Aside0.mk A20
 clear A20
 obtain rfl := Option.some.inj H
 go_enter Tryd.func9, Tryd.ntmps9
 go_wp2_with (first | ((with_reducible refine gate_callee (f := 20) rfl ?_); refine goesL_ (some 4) rfl rfl Tryd.func20 (by kernel_rfl) rfl #[.slice A0 l0.length c0, .int .i64 (-1)] rfl y15_ ?_; (with_reducible refine (write_written.calls _ _ l0 (-1) t123 _ ?side1 ?side2 A2.out).mono ?_); (case side1 => repeat (first | exact HR0.out | (with_reducible refine Kd.C_alloc ?_ _) | (with_reducible refine Kd.C_drewN ?_ _) | (with_reducible refine Kd.C_drew ?_))); (case side2 => exact HC0.out); rintro e w3 ⟨rfl, hb⟩; refine ⟨_, rfl, ?_⟩; have n0_ := Aside0.mk (below_step y14_ hb); clear HB; have HB := n0_; clear n0_; (try clear hb); (try clear hb2); (try clear hk); (try clear hi)))
 go_ret
 exact ⟨y13_, y14_⟩
end Go.Proofs.YtpnhjipaeggcpaaDoor.X
end
section
namespace Go.Proofs.YtpnhjipaeggcpaaDoor.X
open Go.RowKit Go.Proofs.YtpnhjipaeggcpaaDoorW.PrintWords Go.Proofs.YtpnhjipaeggcpaaDoorW.PrintLast Go.Proofs.YtpnhjipaeggcpaaDoorW.PrintMore
attribute [local go_sem] max2_int min2_int max_two min_two max_three min_three max_four min_four
def write_Inside.f (k : Nat) (l0 : List (S35)) (a1 : Int) : Option (ByteArray) := if a1 = (-1) then ((write_written.f l0 a1).bind fun t190 => (some t190)) else (if a1 < 0 then (some (⟨#[]⟩ : ByteArray)) else (if a1 ≥ (l0.length : Int) then (some (⟨#[]⟩ : ByteArray)) else (if 0 ≤ a1 then (if a1 < (l0.length : Int) then (if ((rd_T35 l0 a1).f1) = 0 then ((names_Void.f k ((rd_T35 l0 a1).f2)).bind fun t193 => (if t193 = true then (some (⟨#[]⟩ : ByteArray)) else ((write_written.f l0 a1).bind fun t194 => (some t194)))) else (some (⟨#[]⟩ : ByteArray))) else (none)) else (none))))
set_option maxHeartbeats 8000000 in
set_option maxRecDepth 100000 in
theorem write_Inside.calls (k : Nat) (A0 : Option Addr) (c0 : Nat) (l0 : List (S35)) (a1 : Int) (r : ByteArray) (w : World) (hr0 : Kd.C k35 w A0 l0.length l0) (hc0 : l0.length ≤ c0) (h : write_Inside.f k l0 a1 = some r) :
  Calls Tryd.prog 11 #[.slice A0 l0.length c0, .int .i64 a1] w fun e w' => e = .returned (.string r) ∧ Below w.heap.size w w' := by
 have HR0 := Aside0.mk hr0
 have HC0 := Aside0.mk hc0
 clear hr0 hc0
 have HB := Aside0.mk (Below.refl w.heap.size w)
 have H : (if a1 = (-1) then ((write_written.f l0 a1).bind fun t190 => (some t190)) else (if a1 < 0 then (some (⟨#[]⟩ : ByteArray)) else (if a1 ≥ (l0.length : Int) then (some (⟨#[]⟩ : ByteArray)) else (if 0 ≤ a1 then (if a1 < (l0.length : Int) then (if ((rd_T35 l0 a1).f1) = 0 then ((names_Void.f k ((rd_T35 l0 a1).f2)).bind fun t193 => (if t193 = true then (some (⟨#[]⟩ : ByteArray)) else ((write_written.f l0 a1).bind fun t194 => (some t194)))) else (some (⟨#[]⟩ : ByteArray))) else (none)) else (none))))) = some r := h
 clear h
 by_cases c3 : a1 = (-1)
 ·rw [if_pos c3] at H
  have c3b0 : (a1 == (-1)) = true := beq_iff_eq.mpr c3
  have c3b1 : (a1 != (-1)) = false := bne_eq_false_iff_eq.mpr c3
  clear c3
  replace H := Option.bind_eq_some_iff.mp H
  obtain ⟨t190, A40, H⟩ := H
  have A4 := Aside0.mk A40
  clear A40
  obtain rfl := Option.some.inj H
  go_enter Tryd.func11, Tryd.ntmps11
  go_wp2_with (first | ((with_reducible refine gate_callee (f := 20) rfl ?_); refine goesL_ (some 35) rfl rfl Tryd.func20 (by kernel_rfl) rfl #[.slice A0 l0.length c0, .int .i64 a1] rfl y15_ ?_; (with_reducible refine (write_written.calls _ _ l0 a1 t190 _ ?side1 ?side2 A4.out).mono ?_); (case side1 => repeat (first | exact HR0.out | (with_reducible refine Kd.C_alloc ?_ _) | (with_reducible refine Kd.C_drewN ?_ _) | (with_reducible refine Kd.C_drew ?_))); (case side2 => exact HC0.out); rintro e w5 ⟨rfl, hb⟩; refine ⟨_, rfl, ?_⟩; have n0_ := Aside0.mk (below_step y14_ hb); clear HB; have HB := n0_; clear n0_; (try clear hb); (try clear hb2); (try clear hk); (try clear hi)))
  go_ret
  exact ⟨y13_, y14_⟩
 ·rw [if_neg c3] at H
  have c3b0 : (a1 == (-1)) = false := beq_eq_false_iff_ne.mpr c3
  have c3b1 : (a1 != (-1)) = true := bne_iff_ne.mpr c3
  by_cases c6 : a1 < 0
  ·rw [if_pos c6] at H
   have c6b0 : decide (a1 < 0) = true := decide_eq_true c6
   clear c6
   obtain rfl := Option.some.inj H
   go_enter Tryd.func11, Tryd.ntmps11
   go_wp2
   go_ret
   exact ⟨y13_, y14_⟩
  ·rw [if_neg c6] at H
   have c6b0 : decide (a1 < 0) = false := decide_eq_false c6
   clear c6
   by_cases c7 : a1 ≥ (l0.length : Int)
   ·rw [if_pos c7] at H
    have c7b0 : decide ((l0.length : Int) ≤ a1) = true := decide_eq_true c7
    clear c7
    obtain rfl := Option.some.inj H
    go_enter Tryd.func11, Tryd.ntmps11
    go_wp2
    go_ret
    exact ⟨y13_, y14_⟩
   ·rw [if_neg c7] at H
    have c7b0 : decide ((l0.length : Int) ≤ a1) = false := decide_eq_false c7
    clear c7
    by_cases c8 : 0 ≤ a1
    rotate_left
    ·rw [if_neg c8] at H
     exact absurd H (by simp)
    rw [if_pos c8] at H
    have c8b0 : decide (0 ≤ a1) = true := decide_eq_true c8
    clear c8
    by_cases c9 : a1 < (l0.length : Int)
    rotate_left
    ·rw [if_neg c9] at H
     exact absurd H (by simp)
    rw [if_pos c9] at H
    have c9b0 : decide (a1 < (l0.length : Int)) = true := decide_eq_true c9
    clear c9
    by_cases c10 : ((rd_T35 l0 a1).f1) = 0
    ·rw [if_pos c10] at H
     have c10b0 : (((rd_T35 l0 a1).f1) == 0) = true := beq_iff_eq.mpr c10
     have c10b1 : (((rd_T35 l0 a1).f1) != 0) = false := bne_eq_false_iff_eq.mpr c10
     clear c10
     replace H := Option.bind_eq_some_iff.mp H
     obtain ⟨t193, A110, H⟩ := H
     have A11 := Aside0.mk A110
     clear A110
     by_cases c12 : t193 = true
     ·subst c12
      rw [if_pos rfl] at H
      obtain rfl := Option.some.inj H
      have p191 : 0 ≤ (a1 : Int) := of_decide_eq_true y2_
      have q191 : a1 < (l0.length : Int) := of_decide_eq_true y2_
      obtain ⟨ad191, A191_4, c191_4, e191, hx191_0, hx191_1, hx191_2, hx191_3, hx191_4, hl191_4, hi191_4⟩ := at_T35 HR0.out a1 p191 q191
      cases e191
      have HR191_4 := Aside0.mk hi191_4
      have HC191_4 := Aside0.mk hl191_4
      clear hi191_4 hl191_4
      replace p191 := eq_true p191
      replace q191 := eq_true q191
      have p192 : 0 ≤ (a1 : Int) := of_decide_eq_true y2_
      have q192 : a1 < (l0.length : Int) := of_decide_eq_true y2_
      obtain ⟨ad192, A192_4, c192_4, e192, hx192_0, hx192_1, hx192_2, hx192_3, hx192_4, hl192_4, hi192_4⟩ := at_T35 HR0.out a1 p192 q192
      obtain rfl : ad191 = ad192 := (by injection e192)
      have HR192_4 := Aside0.mk hi192_4
      have HC192_4 := Aside0.mk hl192_4
      clear hi192_4 hl192_4
      replace p192 := eq_true p192
      replace q192 := eq_true q192
      have ea_ := Option.some.inj (hx191_4.symm.trans hx192_4)
      injection ea_ with ea_ en_ ec_
      subst ea_
      subst ec_
      clear en_
      go_enter Tryd.func11, Tryd.ntmps11
      go_wp2_with (first | (go_at_call 26; (with_reducible refine (names_Void.calls k ((rd_T35 l0 a1).f2) true _ A11.out).mono ?_); rintro e w13 ⟨rfl, hb⟩; have n0_ := Aside0.mk (below_step y14_ hb); clear HB; have HB := n0_; clear n0_; (try clear hb); (try clear hb2); (try clear hk); (try clear hi)))
      go_ret
      exact ⟨y13_, y14_⟩
     ·replace c12 := Bool.eq_false_iff.mpr c12
      subst c12
      rw [if_neg (show ¬ (false = true) by decide)] at H
      replace H := Option.bind_eq_some_iff.mp H
      obtain ⟨t194, A140, H⟩ := H
      have A14 := Aside0.mk A140
      clear A140
      obtain rfl := Option.some.inj H
      have p191 : 0 ≤ (a1 : Int) := of_decide_eq_true y2_
      have q191 : a1 < (l0.length : Int) := of_decide_eq_true y2_
      obtain ⟨ad191, A191_4, c191_4, e191, hx191_0, hx191_1, hx191_2, hx191_3, hx191_4, hl191_4, hi191_4⟩ := at_T35 HR0.out a1 p191 q191
      cases e191
      have HR191_4 := Aside0.mk hi191_4
      have HC191_4 := Aside0.mk hl191_4
      clear hi191_4 hl191_4
      replace p191 := eq_true p191
      replace q191 := eq_true q191
      have p192 : 0 ≤ (a1 : Int) := of_decide_eq_true y2_
      have q192 : a1 < (l0.length : Int) := of_decide_eq_true y2_
      obtain ⟨ad192, A192_4, c192_4, e192, hx192_0, hx192_1, hx192_2, hx192_3, hx192_4, hl192_4, hi192_4⟩ := at_T35 HR0.out a1 p192 q192
      obtain rfl : ad191 = ad192 := (by injection e192)
      have HR192_4 := Aside0.mk hi192_4
      have HC192_4 := Aside0.mk hl192_4
      clear hi192_4 hl192_4
      replace p192 := eq_true p192
      replace q192 := eq_true q192
      have ea_ := Option.some.inj (hx191_4.symm.trans hx192_4)
      injection ea_ with ea_ en_ ec_
      subst ea_
      subst ec_
      clear en_
      go_enter Tryd.func11, Tryd.ntmps11
      go_wp2_with (first | (go_at_call 26; (with_reducible refine (names_Void.calls k ((rd_T35 l0 a1).f2) false _ A11.out).mono ?_); rintro e w15 ⟨rfl, hb⟩; have n0_ := Aside0.mk (below_step y14_ hb); clear HB; have HB := n0_; clear n0_; (try clear hb); (try clear hb2); (try clear hk); (try clear hi)) | ((with_reducible refine gate_callee (f := 20) rfl ?_); refine goesL_ (some 35) rfl rfl Tryd.func20 (by kernel_rfl) rfl #[.slice (some ad191) l0.length c0, .int .i64 a1] rfl y15_ ?_; (with_reducible refine (write_written.calls _ _ l0 a1 t194 _ ?side1 ?side2 A14.out).mono ?_); (case side1 => repeat (first | exact (Kd.C_below HR0.out HB.out) | (with_reducible refine Kd.C_alloc ?_ _) | (with_reducible refine Kd.C_drewN ?_ _) | (with_reducible refine Kd.C_drew ?_))); (case side2 => exact HC0.out); rintro e w16 ⟨rfl, hb⟩; refine ⟨_, rfl, ?_⟩; have n0_ := Aside0.mk (below_step y14_ hb); clear HB; have HB := n0_; clear n0_; (try clear hb); (try clear hb2); (try clear hk); (try clear hi)))
      go_ret
      exact ⟨y13_, y14_⟩
    ·rw [if_neg c10] at H
     have c10b0 : (((rd_T35 l0 a1).f1) == 0) = false := beq_eq_false_iff_ne.mpr c10
     have c10b1 : (((rd_T35 l0 a1).f1) != 0) = true := bne_iff_ne.mpr c10
     obtain rfl := Option.some.inj H
     have p191 : 0 ≤ (a1 : Int) := of_decide_eq_true y2_
     have q191 : a1 < (l0.length : Int) := of_decide_eq_true y2_
     obtain ⟨ad191, A191_4, c191_4, e191, hx191_0, hx191_1, hx191_2, hx191_3, hx191_4, hl191_4, hi191_4⟩ := at_T35 HR0.out a1 p191 q191
     cases e191
     have HR191_4 := Aside0.mk hi191_4
     have HC191_4 := Aside0.mk hl191_4
     clear hi191_4 hl191_4
     replace p191 := eq_true p191
     replace q191 := eq_true q191
     go_enter Tryd.func11, Tryd.ntmps11
     go_wp2
     go_ret
     exact ⟨y13_, y14_⟩
end Go.Proofs.YtpnhjipaeggcpaaDoor.X
end
section
namespace Go.Proofs.YtpnhjipaeggcpaaDoor.X
open Go.RowKit Go.Proofs.YtpnhjipaeggcpaaDoorW.PrintWords Go.Proofs.YtpnhjipaeggcpaaDoorW.PrintLast Go.Proofs.YtpnhjipaeggcpaaDoorW.PrintMore
def voidL : List ByteArray := boltingref05_Void.f.getD []
def rawL : List ByteArray := boltingref05_Raw.f.getD []
theorem void_is (a : ByteArray) {k : Nat} (hk : 14 < k) : names_Void.f k a = some (inB voidL a) := by
  show (names_among.f k a voidL).bind some = _
  rw [among_is voidL a (by decide) hk]; rfl
theorem raw_is (a : ByteArray) {k : Nat} (hk : 6 < k) : names_Raw.f k a = some (inB rawL a) := by
  show (names_among.f k a rawL).bind some = _
  rw [among_is rawL a (by decide) hk]; rfl
def nodeT (l : List RowT) : Nat → Int → Bool → List UInt8
  | 0, _, _ => []
  | g + 1, k, raw =>
    if (rd_T35 l k).f1 = 1 then (if raw = true then (rd_T35 l k).f3.data.toList else escAll false (rd_T35 l k).f3.data.toList)
    else if (rd_T35 l k).f1 = 2 then [60, 33, 45, 45] ++ (rd_T35 l k).f3.data.toList ++ [45, 45, 62]
    else if inB voidL (rd_T35 l k).f2 = true then openTxt (rd_T35 l k).f2 (rd_T35 l k).f4
    else openTxt (rd_T35 l k).f2 (rd_T35 l k).f4 ++ (kidsOf l k).flatMap (fun j => nodeT l g j (inB rawL (rd_T35 l k).f2)) ++ ([60, 47] ++ (rd_T35 l k).f2.data.toList ++ [62])
def inT (l : List RowT) (g : Nat) (k : Int) (raw : Bool) : List UInt8 := (kidsOf l k).flatMap fun j => nodeT l g j raw
def RowSmall (x : RowT) : Prop := x.f2.size ≤ 1048576 ∧ x.f3.size ≤ 1048576 ∧ x.f4.length ≤ 256 ∧ ∀ a ∈ x.f4, AttrSmall a
theorem flat_length (l : List AttT) (h : ∀ a ∈ l, AttrSmall a) : (l.flatMap attrTxt).length ≤ 7340036 * l.length := by
  induction l with
  | nil => simp
  | cons a r ih =>
    have h1 := attrTxt_length a (h a (by simp))
    have h2 := ih (fun b hb => h b (by simp [hb]))
    rw [List.flatMap_cons, List.length_append, List.length_cons]
    omega
theorem openTxt_length {x : RowT} (h : RowSmall x) : (openTxt x.f2 x.f4).length ≤ 1880097794 := by
  have h1 := flat_length x.f4 h.2.2.2
  have h2 := h.1
  have h3 := h.2.2.1
  rw [size_eq] at h2
  simp only [openTxt, List.length_append, List.length_cons, List.length_nil]
  omega
theorem go_length {l : List RowT} {e : Nat} {T : Int → List UInt8} (hnest : ∀ j, j < e → endOf l j ≤ e) (hT : ∀ j : Nat, j < e → (T (j : Int)).length + 2000000000 * j ≤ 2000000000 * endOf l j) : ∀ (g k : Nat), k ≤ e →
    ((kidsGo l e g k).flatMap T).length + 2000000000 * k ≤ 2000000000 * e
  | 0, k, hk => by simp [kidsGo]; omega
  | g + 1, k, hk => by
    unfold kidsGo
    split
    · rename_i hlt
      have h1 := hT k hlt
      have h2 := go_length hnest hT g (endOf l k) (hnest k hlt)
      rw [List.flatMap_cons, List.length_append]
      omega
    · simp; omega
theorem go_length2 {l : List RowT} (g k : Nat) (hk : k < l.length) (raw : Bool) (hT : ∀ k2 : Nat, k2 < l.length → (nodeT l g (k2 : Int) raw).length + 2000000000 * k2 ≤ 2000000000 * endOf l k2) (he : k < endOf l k ∧ endOf l k ≤ l.length) : ∀ (g2 k2 : Nat), k < k2 → k2 ≤ endOf l k →
    ((kidsGo l (endOf l k) g2 k2).flatMap fun j => nodeT l g j raw).length + 2000000000 * k2 ≤ 2000000000 * endOf l k
  | 0, k2, h1, h2 => by simp [kidsGo]; omega
  | g2 + 1, k2, h1, h2 => by
    unfold kidsGo
    split
    · rename_i hlt
      have h3 := hT k2 (by omega)
      have h4 := end_nest hk h1 hlt
      have h5 := go_length2 g k hk raw hT he g2 (endOf l k2) (by unfold endOf; omega) h4
      rw [List.flatMap_cons, List.length_append]
      omega
    · simp; omega
theorem node_length {l : List RowT} (hs : ∀ x ∈ l, RowSmall x) : ∀ (g k : Nat) (raw : Bool), k < l.length → (nodeT l g (k : Int) raw).length + 2000000000 * k ≤ 2000000000 * endOf l k
  | 0, k, raw, hk => by
    have := endOf_le l k hk
    simp [nodeT]; omega
  | g + 1, k, raw, hk => by
    have he := endOf_le l k hk
    have hx : RowSmall (rd_T35 l (k : Int)) := by rw [rdR_at hk]; exact hs _ (List.getElem_mem hk)
    have ho := openTxt_length hx
    have hn := hx.1
    have hd := hx.2.1
    rw [size_eq] at hn hd
    have hes := escAll_length false _ (rd_T35 l (k : Int)).f3.data.toList (Nat.le_refl _)
    unfold nodeT
    split
    · split <;> omega
    · split
      · simp only [List.length_append, List.length_cons, List.length_nil]; omega
      · split
        · omega
        · have hk2 : ((kidsOf l (k : Int)).flatMap fun j => nodeT l g j (inB rawL (rd_T35 l (k : Int)).f2)).length + 2000000000 * (k + 1) ≤ 2000000000 * endOf l k := by
            have hre : rEnd l (k : Int) = (endOf l k : Int) := by unfold rEnd; rw [if_pos ⟨by omega, by omega⟩]; rfl
            unfold kidsOf
            rw [if_neg (by omega), hre, show ((endOf l k : Nat) : Int).toNat = endOf l k from rfl, show ((k : Nat) : Int).toNat = k from rfl]
            exact go_length2 g k hk _ (fun k2 h2 => node_length hs g k2 _ h2) he l.length (k + 1) (by omega) (by omega)
          simp only [List.length_append, List.length_cons, List.length_nil]; omega
theorem in_length {l : List RowT} (hs : ∀ x ∈ l, RowSmall x) (g : Nat) (i : Int) (hi : i = -1 ∨ (0 ≤ i ∧ i < (l.length : Int))) (raw : Bool) : (inT l g i raw).length ≤ 2000000000 * l.length := by
  unfold inT
  rcases hi with rfl | ⟨h0, h1⟩
  · unfold kidsOf
    rw [if_pos rfl]
    have := go_length (l := l) (e := l.length) (T := fun j => nodeT l g j raw) (fun j hj => (endOf_le l j hj).2) (fun j hj => node_length hs g j raw hj) l.length 0 (by omega)
    omega
  · obtain ⟨m, rfl⟩ := Int.eq_ofNat_of_zero_le h0
    have hm : m < l.length := by omega
    have he := endOf_le l m hm
    have hre : rEnd l (m : Int) = (endOf l m : Int) := by unfold rEnd; rw [if_pos ⟨by omega, by omega⟩]; rfl
    unfold kidsOf
    rw [if_neg (by omega), hre, show ((endOf l m : Nat) : Int).toNat = endOf l m from rfl, show ((m : Nat) : Int).toNat = m from rfl]
    have := go_length2 g m hm raw (fun k2 h2 => node_length hs g k2 _ h2) he l.length (m + 1) (by omega) (by omega)
    omega
theorem put_is {acc : List UInt8} {s : ByteArray} (h : acc.length + s.data.toList.length ≤ 140737488355328) : wPut acc s = some (acc ++ s.data.toList) := by
  unfold wPut
  rw [size_eq, if_pos h]
theorem fold_is (N : Int → List UInt8 → Option (List UInt8)) (T : Int → List UInt8) : ∀ (ks : List Int) (acc : List UInt8), (∀ j ∈ ks, ∀ a : List UInt8, a.length + (T j).length ≤ 140737488355328 → N j a = some (a ++ T j)) → acc.length + (ks.flatMap T).length ≤ 140737488355328 →
    ks.foldlM (fun a j => N j a) acc = some (acc ++ ks.flatMap T)
  | [], acc, _, _ => by simp
  | j :: r, acc, h, hl => by
    rw [List.flatMap_cons, List.length_append] at hl
    rw [List.foldlM_cons, h j (by simp) acc (by omega)]
    show r.foldlM (fun a j => N j a) (acc ++ T j) = _
    rw [fold_is N T r (acc ++ T j) (fun i hi => h i (by simp [hi])) (by rw [List.length_append]; omega), List.flatMap_cons, List.append_assoc]
theorem wNode_is {l : List RowT} (hr : rightB l = true) (hs : ∀ x ∈ l, RowSmall x) (hl : l.length ≤ 60000) : ∀ (g k : Nat) (raw : Bool) (acc : List UInt8), k < l.length → l.length - k ≤ g → acc.length + (nodeT l g (k : Int) raw).length ≤ 140737488355328 →
    wNode l g (k : Int) raw acc = some (acc ++ nodeT l g (k : Int) raw)
  | 0, k, raw, acc, hk, hg, ha => by omega
  | g + 1, k, raw, acc, hk, hg, ha => by
    have hx : RowSmall (rd_T35 l (k : Int)) := by rw [rdR_at hk]; exact hs _ (List.getElem_mem hk)
    have hkind : (rd_T35 l (k : Int)).f1 = 0 ∨ (rd_T35 l (k : Int)).f1 = 1 ∨ (rd_T35 l (k : Int)).f1 = 2 := right_kind hr hk
    unfold nodeT at ha ⊢
    unfold wNode
    rw [if_pos ⟨by omega, by omega⟩]
    obtain ⟨hx2, hx3, hx4, hxa⟩ := hx
    by_cases h1 : (rd_T35 l (k : Int)).f1 = 1
    · rw [if_pos h1] at ha ⊢
      rw [if_pos h1]
      cases raw with
      | true =>
        rw [if_pos rfl] at ha ⊢
        rw [if_pos rfl]
        exact put_is ha
      | false =>
        rw [if_neg (by decide)] at ha ⊢
        rw [if_neg (by decide), text_is _ (by omega), Option.bind_some]
        exact put_is ha
    · rw [if_neg h1] at ha ⊢
      rw [if_neg h1]
      by_cases h2 : (rd_T35 l (k : Int)).f1 = 2
      · rw [if_pos h2] at ha ⊢
        rw [if_pos h2, if_pos (by omega)]
        have e : ((⟨#[60, 33, 45, 45]⟩ : ByteArray) ++ (rd_T35 l (k : Int)).f3 ++ (⟨#[45, 45, 62]⟩ : ByteArray)).data.toList = [60, 33, 45, 45] ++ (rd_T35 l (k : Int)).f3.data.toList ++ [45, 45, 62] := by simp
        rw [put_is (by rw [e]; exact ha), e]
      · rw [if_neg h2] at ha ⊢
        rw [if_neg h2, if_pos (by omega), opened_is _ _ _ _ _ hx2 (by omega) hxa (by omega), Option.bind_some]
        by_cases hv : inB voidL (rd_T35 l (k : Int)).f2 = true
        · rw [if_pos hv] at ha ⊢
          have hp := put_is (acc := acc) (s := bs (openTxt (rd_T35 l (k : Int)).f2 (rd_T35 l (k : Int)).f4)) ha
          rw [hp, Option.bind_some, void_is _ (by omega), Option.bind_some, if_pos hv]; rfl
        · rw [if_neg hv] at ha ⊢
          simp only [List.length_append] at ha
          have hp := put_is (acc := acc) (s := bs (openTxt (rd_T35 l (k : Int)).f2 (rd_T35 l (k : Int)).f4)) (by rw [bs_data]; omega)
          rw [hp, Option.bind_some, void_is _ (by omega), Option.bind_some, if_neg hv, raw_is _ (by omega), Option.bind_some]
          have hki : rows_Kids.f l (k : Int) = some (kidsOf l (k : Int)) := by unfold rows_Kids.f; rw [if_pos (.inr ⟨by omega, by omega⟩), if_pos (by omega)]
          rw [hki, Option.bind_some, fold_is (fun j a => wNode l g j _ a) (fun j => nodeT l g j (inB rawL (rd_T35 l (k : Int)).f2)) _ _ (fun j hj a hal => by
            obtain ⟨m, rfl, h3, h4⟩ := kidsOf_mem (.inr ⟨by omega, by omega⟩) hj
            exact wNode_is hr hs hl g m _ a h4 (by omega) hal) (by rw [List.length_append, bs_data]; omega), Option.bind_some, if_pos (by omega)]
          have e : ((⟨#[60, 47]⟩ : ByteArray) ++ (rd_T35 l (k : Int)).f2 ++ (⟨#[62]⟩ : ByteArray)).data.toList = [60, 47] ++ (rd_T35 l (k : Int)).f2.data.toList ++ [62] := by simp
          rw [put_is (by rw [e]; simp only [List.length_append, bs_data]; omega), e, bs_data]
          simp only [List.append_assoc]
def rawOf (l : List RowT) (i : Int) : Bool := if 0 ≤ i then inB rawL (rd_T35 l i).f2 else false
theorem written_text {l : List RowT} (hr : rightB l = true) (hs : ∀ x ∈ l, RowSmall x) (hl : l.length ≤ 60000) (i : Int) (hi : i = -1 ∨ (0 ≤ i ∧ i < (l.length : Int))) : write_written.f l i = some (bs (inT l (l.length + 1) i (rawOf l i))) := by
  have hlen := in_length hs (l.length + 1) i hi (rawOf l i)
  have hwi : wIn l (l.length + 1) i (rawOf l i) [] = some (inT l (l.length + 1) i (rawOf l i)) := by
    unfold wIn
    have hki : rows_Kids.f l i = some (kidsOf l i) := by unfold rows_Kids.f; rw [if_pos hi, if_pos (by omega)]
    rw [hki, Option.bind_some, fold_is (fun j a => wNode l (l.length + 1) j (rawOf l i) a) (fun j => nodeT l (l.length + 1) j (rawOf l i)) _ _ (fun j hj a hal => by
      obtain ⟨m, rfl, h3, h4⟩ := kidsOf_mem hi hj
      exact wNode_is hr hs hl (l.length + 1) m _ a h4 (by omega) hal) (by unfold inT at hlen; rw [List.length_nil]; omega)]
    rfl
  unfold write_written.f
  rcases hi with rfl | ⟨h0, h1⟩
  · rw [if_neg (by omega), if_pos rfl, Option.bind_some, show (false : Bool) = rawOf l (-1) from rfl, hwi]; rfl
  · have e : rawOf l i = inB rawL (rd_T35 l i).f2 := by unfold rawOf; rw [if_pos h0]
    rw [if_pos h0, if_pos h1, raw_is _ (by omega), Option.bind_some, ← e, hwi]; rfl
end Go.Proofs.YtpnhjipaeggcpaaDoor.X
end
section
namespace Go.Proofs.YtpnhjipaeggcpaaDoor.X
open Go.RowKit Go.Proofs.YtpnhjipaeggcpaaDoorW.PrintWords Go.Proofs.YtpnhjipaeggcpaaDoorW.PrintLast Go.Proofs.YtpnhjipaeggcpaaDoorW.PrintMore
theorem flat_congr {α β : Type} {l : List α} {f g : α → List β} (h : ∀ x ∈ l, f x = g x) : l.flatMap f = l.flatMap g := by
  induction l with
  | nil => rfl
  | cons x r ih => rw [List.flatMap_cons, List.flatMap_cons, h x (by simp), ih (fun y hy => h y (by simp [hy]))]
def Stands (A t : List RowT) (m : Nat) : Prop := m + A.length ≤ t.length ∧ ∀ j : Nat, j < A.length → rd_T35 A (j : Int) = rd_T35 t ((m + j : Nat) : Int) ∧ endOf t (m + j) = endOf A j + m
theorem deep_app (d : Int) : ∀ (A B : List RowT), (∀ x, B.head? = some x → x.f0 ≤ d) → runDeep d (A ++ B) = runDeep d A
  | [], B, h => by
    cases B with
    | nil => rfl
    | cons x r =>
      have := h x rfl
      show (if x.f0 > d then _ else 0) = 0
      rw [if_neg (by omega)]
  | x :: A, B, h => by
    show (if x.f0 > d then runDeep d (A ++ B) + 1 else 0) = (if x.f0 > d then runDeep d A + 1 else 0)
    rw [deep_app d A B h]
def cutOut (t : List RowT) (m e : Nat) : List RowT := (t.take e).drop m
theorem cutOut_length {t : List RowT} {m e : Nat} (he : e ≤ t.length) : (cutOut t m e).length = e - m := by simp [cutOut]; omega
theorem cutOut_at {t : List RowT} {m e j : Nat} (he : e ≤ t.length) (hj : j < e - m) : rd_T35 (cutOut t m e) (j : Int) = rd_T35 t ((m + j : Nat) : Int) := by
  rw [rdR_at (by rw [cutOut_length he]; exact hj), rdR_at (by omega)]
  simp [cutOut]
theorem stands_cut {t : List RowT} {m e : Nat} (hm : m ≤ e) (he : e ≤ t.length) (hend : ∀ j, m ≤ j → j < e → e < t.length → dep t e ≤ dep t j) : Stands (cutOut t m e) t m := by
  refine ⟨by rw [cutOut_length he]; omega, fun j hj => ?_⟩
  rw [cutOut_length he] at hj
  have hrd := cutOut_at he hj
  refine ⟨hrd, ?_⟩
  unfold endOf
  rw [← hrd]
  have hsplit : t.drop (m + j + 1) = (cutOut t m e).drop (j + 1) ++ t.drop e := by
    unfold cutOut
    rw [List.drop_drop]
    have h1 : t = t.take e ++ t.drop e := (List.take_append_drop e t).symm
    conv => lhs; rw [h1]
    rw [List.drop_append_of_le_length (by simp; omega), show m + (j + 1) = m + j + 1 by omega]
  rw [hsplit, deep_app]
  · omega
  · intro x hx
    rw [List.head?_drop] at hx
    obtain ⟨h1, h2⟩ := List.getElem?_eq_some_iff.1 hx
    have h3 := hend (m + j) (by omega) (by omega) h1
    have h4 : dep t (m + j) = (rd_T35 (cutOut t m e) (j : Int)).f0 := by rw [hrd]; rfl
    rw [← h4]
    have h5 : dep t e = x.f0 := by unfold dep; rw [rdR_at h1, h2]
    omega
theorem go_shift {A t : List RowT} {m : Nat} (h : Stands A t m) {e : Nat} (he : e ≤ A.length) : ∀ (g g' k : Nat), e - k ≤ g → e - k ≤ g' →
    kidsGo t (e + m) g (k + m) = (kidsGo A e g' k).map fun j => j + (m : Int)
  | 0, g', k, h1, h2 => by
    rw [show kidsGo t (e + m) 0 (k + m) = [] from rfl]
    cases g' with
    | zero => rfl
    | succ g' => unfold kidsGo; rw [if_neg (by omega)]; rfl
  | g + 1, 0, k, h1, h2 => by unfold kidsGo; rw [if_neg (by omega)]; rfl
  | g + 1, g' + 1, k, h1, h2 => by
    unfold kidsGo
    by_cases hk : k < e
    · have hs := (h.2 k (by omega)).2
      have hg : k < endOf A k := by unfold endOf; omega
      rw [if_pos hk, if_pos (by omega), List.map_cons, show k + m = m + k by omega, hs, go_shift h he g g' (endOf A k) (by omega) (by omega)]
      congr 1
      omega
    · rw [if_neg hk, if_neg (by omega)]; rfl
theorem kids_shift {A t : List RowT} {m : Nat} (h : Stands A t m) {k : Nat} (hk : k < A.length) : kidsOf t ((m + k : Nat) : Int) = (kidsOf A (k : Int)).map fun j => j + (m : Int) := by
  have h0 := h.1
  have he := endOf_le A k hk
  have hs := (h.2 k hk).2
  have hre : rEnd t ((m + k : Nat) : Int) = (endOf t (m + k) : Int) := by unfold rEnd; rw [if_pos ⟨by omega, by omega⟩]; rfl
  have hre' : rEnd A (k : Int) = (endOf A k : Int) := by unfold rEnd; rw [if_pos ⟨by omega, by omega⟩]; rfl
  unfold kidsOf
  rw [if_neg (by omega), if_neg (by omega), hre, hre', hs]
  show kidsGo t (endOf A k + m) t.length (m + k + 1) = (kidsGo A (endOf A k) A.length (k + 1)).map _
  rw [show m + k + 1 = (k + 1) + m by omega]
  exact go_shift h he.2 _ _ _ (by omega) (by omega)
theorem node_shift {A t : List RowT} {m : Nat} (h : Stands A t m) : ∀ (g g' k : Nat) (raw : Bool), k < A.length → A.length - k ≤ g → A.length - k ≤ g' → nodeT t g ((m + k : Nat) : Int) raw = nodeT A g' (k : Int) raw
  | 0, g', k, raw, hk, h1, h2 => by omega
  | g + 1, 0, k, raw, hk, h1, h2 => by omega
  | g + 1, g' + 1, k, raw, hk, h1, h2 => by
    unfold nodeT
    rw [← (h.2 k hk).1, kids_shift h hk, List.flatMap_map]
    have : ∀ j ∈ kidsOf A (k : Int), nodeT t g (j + (m : Int)) (inB rawL (rd_T35 A (k : Int)).f2) = nodeT A g' j (inB rawL (rd_T35 A (k : Int)).f2) := fun j hj => by
      obtain ⟨q, rfl, h3, h4⟩ := kidsOf_mem (.inr ⟨by omega, by omega⟩) hj
      rw [show (q : Int) + (m : Int) = ((m + q : Nat) : Int) by omega]
      exact node_shift h g g' q _ h4 (by omega) (by omega)
    rw [flat_congr this]
end Go.Proofs.YtpnhjipaeggcpaaDoor.X
end
section
namespace Go.Proofs.YtpnhjipaeggcpaaDoor.X
open Go.RowKit Go.Proofs.YtpnhjipaeggcpaaDoorW.PrintWords
def utf8_ValidString.f (a0 : ByteArray) : Option Bool := if a0.size ≤ 9223372036854775807 then some (Lib.validD a0.data.toList) else none
theorem utf8_ValidString.calls (a0 : ByteArray) (r : Bool) (w : World) (h : utf8_ValidString.f a0 = some r) (hT : WF w := by exact WF.below hT (by repeat (first | (with_reducible first | exact HB.out | apply below_alloc | apply pw_below_drewN | apply below_drew1) | exact HB.out | (refine below_set ?_ (Aside0.out (by assumption)))))) :
    Calls Tryd.prog 68 #[.string a0] w fun e w' => e = .returned (.bool r) ∧ Below w.heap.size w w' := by
  unfold utf8_ValidString.f at h
  split at h
  case isFalse => cases h
  rename_i hs
  cases h
  exact Any.utf8_ValidString Tryd.lays196 a0 w hs hT.1
def strings_Contains.f (a0 a1 : ByteArray) : Option Bool := if a0.size < 4294967281 then some (Lib.contains a0.data.toList a1.data.toList) else none
theorem strings_Contains.calls (a0 a1 : ByteArray) (r : Bool) (w : World) (h : strings_Contains.f a0 a1 = some r) (hT : WF w := by exact WF.below hT (by repeat (first | (with_reducible first | exact HB.out | apply below_alloc | apply pw_below_drewN | apply below_drew1) | exact HB.out | (refine below_set ?_ (Aside0.out (by assumption)))))) :
    Calls Tryd.prog 51 #[.string a0, .string a1] w fun e w' => e = .returned (.bool r) ∧ Below w.heap.size w w' := by
  unfold strings_Contains.f at h
  split at h
  case isFalse => cases h
  rename_i hs
  cases h
  obtain ⟨m, hm⟩ := hT.2
  refine (Tryd.strings_Contains a0 a1 m w hs hm).mono ?_
  rintro e w' ⟨rfl, rfl⟩
  exact ⟨rfl, Below.refl _ _⟩
def nulCr : ByteArray := ⟨#[0, 13]⟩
def isNulCr (b : UInt8) : Bool := b == 0 || b == 13
def strings_ContainsAny.f (a0 a1 : ByteArray) : Option Bool := if a0.size < 4294967281 ∧ a1 = nulCr then some (a0.data.toList.any isNulCr) else none
theorem nulCr_has (x : UInt8) : nulCr.data.toList.contains x = isNulCr x := by simp [nulCr, isNulCr, List.contains, List.elem]; cases x == 0 <;> cases x == 13 <;> rfl
theorem nulCr_any : ∀ l : List UInt8, decide (0 ≤ Lib.indexAny l nulCr.data.toList) = l.any isNulCr
  | [] => rfl
  | b :: l => by
    have ih := nulCr_any l
    have hge := Lib.indexAny_ge nulCr.data.toList l
    rw [Lib.indexAny, nulCr_has, List.any_cons]
    cases hb : isNulCr b with
    | true => rfl
    | false =>
      rw [Bool.false_or, ← ih]
      by_cases h1 : Lib.indexAny l nulCr.data.toList = -1
      · rw [h1]; rfl
      · rw [if_neg (by simp), if_neg (by simpa using h1)]
        rw [decide_eq_true (by omega : 0 ≤ Lib.indexAny l nulCr.data.toList + 1), decide_eq_true (by omega : 0 ≤ Lib.indexAny l nulCr.data.toList)]
theorem nulCr_small : ∀ (j : Nat) b, nulCr.data.toList[j]? = some b → b.toNat < 128 := by
  intro j b h
  match j, h with
  | 0, h => simp [nulCr] at h; subst h; decide
  | 1, h => simp [nulCr] at h; subst h; decide
theorem decode_step (s : ByteArray) (i : Nat) (h : i < s.size) (hx : 128 ≤ (s[i]'h).toNat) : i + (Utf8.decode s i).2 ≤ s.size ∧ 1 ≤ (Utf8.decode s i).2 ∧ ∀ (j : Nat) b, i ≤ j → j < i + (Utf8.decode s i).2 → s.data.toList[j]? = some b → 128 ≤ b.toNat := by
  have g0 : s.get! i = s[i]'h := by simpa using get_at s i h
  have key : ∀ (k : Nat) b, s.data.toList[i + k]? = some b → s.get! (i + k) = b := by
    intro k b hb
    have hlt : i + k < s.data.toList.length := (List.getElem?_eq_some_iff.1 hb).1
    have hlt' : i + k < s.size := hlt
    have h1 := Lib.data_getElem? s (i + k) hlt'
    rw [h1] at hb
    cases hb
    simpa using get_at s (i + k) hlt'
  rw [Lib.decode_at]
  rcases Lib.decodeN_shape (s.size - i) (s.get! i).toNat (s.get! (i + 1)).toNat (s.get! (i + 2)).toNat (s.get! (i + 3)).toNat with h1 | h1 | h1 | h1 | h1
  · rw [g0] at h1; omega
  · obtain ⟨a1, a2, a3, a4, e⟩ := h1
    rw [e]
    refine ⟨by simp only; omega, by simp, fun j b h1 h2 h3 => ?_⟩
    obtain ⟨k, rfl⟩ := Nat.exists_eq_add_of_le h1
    have := key k b h3
    match k, (show k < 2 by simp only at h2; omega) with
    | 0, _ => rw [Nat.add_zero] at this; rw [← this, g0]; exact hx
    | 1, _ => rw [← this]; omega
  · obtain ⟨a1, a2, a3, a4, a5, a6, e⟩ := h1
    rw [e]
    refine ⟨by simp only; omega, by simp, fun j b h1 h2 h3 => ?_⟩
    obtain ⟨k, rfl⟩ := Nat.exists_eq_add_of_le h1
    have := key k b h3
    match k, (show k < 3 by simp only at h2; omega) with
    | 0, _ => rw [Nat.add_zero] at this; rw [← this, g0]; exact hx
    | 1, _ => rw [← this]; omega
    | 2, _ => rw [← this]; omega
  · obtain ⟨a1, a2, a3, a4, a5, a6, a7, e⟩ := h1
    rw [e]
    refine ⟨by simp only; omega, by simp, fun j b h1 h2 h3 => ?_⟩
    obtain ⟨k, rfl⟩ := Nat.exists_eq_add_of_le h1
    have := key k b h3
    match k, (show k < 4 by simp only at h2; omega) with
    | 0, _ => rw [Nat.add_zero] at this; rw [← this, g0]; exact hx
    | 1, _ => rw [← this]; omega
    | 2, _ => rw [← this]; omega
    | 3, _ => rw [← this]; omega
  · rw [h1]
    refine ⟨by simp only; omega, by simp, fun j b h1 h2 h3 => ?_⟩
    obtain rfl : j = i := by simp only at h2; omega
    have h4 : b = s[j] := by
      have := Lib.data_getElem? s j h
      rw [this] at h3; cases h3; rfl
    rw [h4]; exact hx
theorem lib_drewN (B : Nat) (w : World) (n : Nat) : Below B w (w.drewN n) := ⟨rfl, rfl, rfl, Nat.le_refl _, fun _ _ => rfl⟩
theorem next_gen {P : Program} (w : World) (s : ByteArray) (b pos : Nat) (ty : TypeId) (hb : w.heap[b]? = some (.stringIter s pos)) (h : pos < s.size) :
    (Instr.next (.pointer (some ⟨b, 0, none⟩)) true ty).run P w =
      .ok (.tuple #[.bool true, .int .i64 pos, .int .i32 (Utf8.decode s pos).1]) { w with heap := w.heap.setIfInBounds b (.stringIter s (pos + (Utf8.decode s pos).2)) } := by
  simp only [Instr.next, getObj, setObj, Sem.run_bind, Sem.run, hb, Result.andThen, h, if_true]
  simp [goInt]
theorem next_gen_end {P : Program} (w : World) (s : ByteArray) (b pos : Nat) (ty : TypeId) (hb : w.heap[b]? = some (.stringIter s pos)) (h : ¬ pos < s.size) :
    (Instr.next (.pointer (some ⟨b, 0, none⟩)) true ty).run P w = .ok (.tuple #[.bool false]) w := by
  simp [Instr.next, getObj, Sem.run, hb, h]
theorem set_below {B b : Nat} {w : World} {o : Obj} (h : B ≤ b) : Below B w { w with heap := w.heap.setIfInBounds b o } :=
  ⟨rfl, rfl, rfl, by simp, fun k hk => by simp [show b ≠ k by omega]⟩
set_option maxHeartbeats 8000000 in
set_option maxRecDepth 1000000 in
theorem runeNot (r : Int) (w : World) (h0 : 128 ≤ r) (h1 : r ≤ 2147483647) :
    Calls Tryd.prog 85 #[.string nulCr, .int .i32 r] w fun e w' => e = .returned (.int .i64 (-1)) ∧ Below w.heap.size w w' := by
  have hz1 : ¬ r < 128 := by omega
  have hz2 : (0 : Int) ≤ r := by omega
  by_cases h2 : r = 65533
  · subst h2
    have hsz : nulCr.size = 2 := rfl
    go_enter Tryd.func85, Tryd.ntmps85
    go_wp2
    go_loopg [5, 6] 2 (fun g _ _ wx => ∃ i : Nat, i + g = 2 ∧ wx = w.iter nulCr i)
    case atStart => exact ⟨0, rfl, rfl⟩
    case round =>
      obtain ⟨i, hig, rfl⟩ := hrel
      cases gk with
      | zero =>
        obtain rfl : i = 2 := by omega
        have hnx := run_next_end (P := Tryd.prog) w nulCr 2
        have hlt : ¬ 2 < nulCr.size := by decide
        go_wp2
        go_ret
        exact ⟨rfl, (Below.refl _ w).alloc (Nat.le_refl _) _⟩
      | succ g =>
        have hi : i < nulCr.size := by omega
        obtain ⟨x, hx⟩ : ∃ x : UInt8, nulCr[i]'hi = x := ⟨_, rfl⟩
        have hx128 : x.toNat < 128 := by rw [← hx]; exact nulCr_small i _ (Lib.data_getElem? nulCr i hi)
        have hnx := fun ty => run_next_ascii (P := Tryd.prog) w nulCr i ty hi (by rw [hx]; exact hx128)
        rw [hx] at hnx
        clear hx
        have hne : ((x.toNat : Int) == 65533) = false := beq_eq_false_iff_ne.mpr (by omega)
        go_wp2
        go_roundg g
        case measure => omega
        case rel => exact ⟨i + 1, by omega, rfl⟩
  · have h2b : (r == 65533) = false := beq_eq_false_iff_ne.mpr h2
    have hv := Tryd.utf8_ValidRune r w
    have u21 := Tryd.underlying21
    have u9 := Tryd.underlying9
    cases hb : Lib.validRune r with
    | false =>
      rw [hb] at hv
      clear hb
      go_enter Tryd.func85, Tryd.ntmps85
      go_wp2_with (go_at_call 96; refine hv.mono ?_; rintro e w1 ⟨rfl, rfl⟩)
      go_ret
      exact ⟨rfl, Below.refl _ _⟩
    | true =>
      rw [hb] at hv
      have hval : Utf8.valid r = true := by rw [validRune_eq]; simpa [Lib.validRune, validRune] using hb
      obtain ⟨e1, e2, e3⟩ := encode_facts r hval h0
      clear hb hval
      have hnul : nulCr.size = 2 := rfl
      obtain ⟨rs, hrs⟩ : ∃ rs, Utf8.encode r = rs := ⟨_, rfl⟩
      rw [hrs] at e1 e2 e3
      have hcv : ∀ w, (convert 21 9 (.int .i32 r)).run Tryd.prog w = .ok (.string rs) w := fun w => by
        rw [run_convert_int_string w 21 9 .i32 r (by rw [u21]; rfl) u9, hrs]
      clear hrs
      obtain ⟨n, hn⟩ : ∃ n, rs.size = n + 1 := ⟨rs.size - 1, by omega⟩
      have hlast : ∀ h : n < rs.size, 128 ≤ (rs[n]'h).toNat := fun h => by
        have := e3 (by omega)
        simpa [hn] using this
      clear e3
      have hw64 : wrap64 ((rs.size : Int) - 1) = n := by rw [hn]; unfold wrap64; omega
      go_enter Tryd.func85, Tryd.ntmps85
      go_wp2_with (first | (go_at_call 96; refine hv.mono ?_; rintro e w1 ⟨rfl, rfl⟩))
      go_step3
      go_wp2
      go_loopg [9, 10, 11, 12] 0 (fun g x9 x10 _ _ wx => x9 = .int .i64 (n : Int) ∧ x10 = .int .i64 0 ∧ wx = w1)
      case atStart => exact ⟨rfl, rfl, rfl⟩
      case round =>
        obtain ⟨rfl, rfl, rfl⟩ := hrel
        by_cases hn1 : n = 1
        · subst hn1
          have hlt : (1 : Int) < (nulCr.size : Int) := by decide
          have h13 : ∀ h : 1 < nulCr.size, ((nulCr[1]'h).toNat : Int) = 13 := fun _ => rfl
          obtain ⟨m, hm⟩ : ∃ m : Int, ∀ h : 1 < rs.size, ((rs[1]'h).toNat : Int) = m := ⟨(rs[1].toNat : Int), fun _ => rfl⟩
          have hm1 : 128 ≤ m := by have := hlast (by omega); rw [← hm (by omega)]; omega
          have hne : ((13 : Int) == m) = false := beq_eq_false_iff_ne.mpr (by omega)
          have hne' : ((13 : Int) != m) = true := by simp only [bne, hne]; rfl
          clear hlast hcv hv
          have hib := fun w => Tryd.strings_IndexByte (ByteArray.empty) m w
          have hib0 : Lib.indexByte (ByteArray.empty).data.toList m.toNat.toUInt8 = -1 := rfl
          rw [hib0] at hib
          clear hib0
          go_wp2_with fail
          go_step3
          go_wp2_with fail
          go_quiet (fail)
          go_wp2_with fail
          go_quiet (first | (go_at_call 95; exact (hib _).mono fun _ _ h => ⟨h.1, _, h.2⟩))
          go_wp2
          simp only [Exit.noGoto_ret, Exit.inBlock, Exit.then]
          go_ret
          exact ⟨rfl, lib_drewN _ _ _⟩
        · have hlt : ¬ (n : Int) < (nulCr.size : Int) := by rw [hnul]; omega
          go_wp2
          go_ret
          exact ⟨rfl, Below.refl _ _⟩
theorem rune_any (r : Int) (w : World) (h0 : 0 ≤ r) (h1 : r ≤ 2147483647) :
    Calls Tryd.prog 85 #[.string nulCr, .int .i32 r] w fun e w' => e = .returned (.int .i64 (if r < 128 then Lib.indexByte nulCr.data.toList r.toNat.toUInt8 else -1)) ∧ Below w.heap.size w w' := by
  by_cases h : r < 128
  · rw [if_pos h]
    refine (Tryd.strings_IndexRune_ascii nulCr r w h0 h).mono ?_
    rintro e w' ⟨rfl, rfl⟩
    exact ⟨rfl, Below.refl _ _⟩
  · rw [if_neg h]
    exact runeNot r w (by omega) h1
theorem NoAny_skip {s : List UInt8} {i j : Nat} (h : Lib.NoAny s nulCr.data.toList i) (hd : ∀ (k : Nat) b, i ≤ k → k < j → s[k]? = some b → 128 ≤ b.toNat) : Lib.NoAny s nulCr.data.toList j := fun k b hk hb => by
  by_cases e : k < i
  · exact h k b e hb
  · have := hd k b (by omega) hk hb
    rw [nulCr_has]
    unfold isNulCr
    rw [Bool.or_eq_false_iff]
    constructor
    · exact beq_eq_false_iff_ne.mpr (by rintro rfl; simp at this)
    · exact beq_eq_false_iff_ne.mpr (by rintro rfl; simp at this)
theorem zero256 : (Tryd.prog.info? 90).map (fun i => (i.zero, i.size)) = some (some (.agg (Array.replicate 256 (.bool false))), 256) := by kernel_rfl
set_option maxHeartbeats 8000000 in
set_option maxRecDepth 1000000 in
theorem indexAny_short (s : ByteArray) (w : World) (h8 : s.size ≤ 8) :
    Calls Tryd.prog 69 #[.string s, .string nulCr] w fun e w' => e = .returned (.int .i64 (Lib.indexAny s.data.toList nulCr.data.toList)) ∧ Below w.heap.size w w' := by
  have hnul : nulCr.size = 2 := rfl
  have hemp : nulCr.toList.isEmpty = false := by rw [Lib.toList_data]; rfl
  have h8z : decide ((8 : Int) < (s.size : Int)) = false := decide_eq_false (by omega)
  have hsu := fun w => Tryd.strings_shouldUseASCIISet (s.size : Int) w
  rw [h8z] at hsu
  go_enter Tryd.func69, Tryd.ntmps69
  go_wp2_with (go_at_call 86; refine (hsu _).mono ?_; rintro e w' ⟨rfl, hw⟩; rw [hw])
  go_loopg [9, 10] s.size (fun g _ _ wx => ∃ i : Nat, i ≤ s.size ∧ s.size ≤ i + g ∧ Below w.heap.size w wx ∧ wx.heap[w.heap.size]? = some (.stringIter s i) ∧ Lib.NoAny s.data.toList nulCr.data.toList i)
  case atStart => exact ⟨0, Nat.zero_le _, by omega, (Below.refl _ w).alloc (Nat.le_refl _) _, World.iter_heap w s 0, Lib.NoAny.zero _ _⟩
  case round =>
    obtain ⟨i, hi, hig, hB, hit, hno⟩ := hrel
    have HN := Aside0.mk hno
    have HB := Aside0.mk hB
    have HI := Aside0.mk hit
    clear hno hB hit
    by_cases hlt : i < s.size
    · obtain ⟨g, rfl⟩ : ∃ g, gk = g + 1 := ⟨gk - 1, by omega⟩
      have hnx := fun ty => next_gen (P := Tryd.prog) wr s w.heap.size i ty HI.out hlt
      have hbs := set_below (o := .stringIter s (i + (Utf8.decode s i).2)) (w := wr) (Nat.le_refl w.heap.size)
      have hit2 : ({ wr with heap := wr.heap.setIfInBounds w.heap.size (.stringIter s (i + (Utf8.decode s i).2)) } : World).heap[w.heap.size]? = some (.stringIter s (i + (Utf8.decode s i).2)) := by
        have : w.heap.size < wr.heap.size := (Array.getElem?_eq_some_iff.1 HI.out).1
        simp [this]
      have hsz2 : w.heap.size < ({ wr with heap := wr.heap.setIfInBounds w.heap.size (.stringIter s (i + (Utf8.decode s i).2)) } : World).heap.size := by
        have : w.heap.size < wr.heap.size := (Array.getElem?_eq_some_iff.1 HI.out).1
        simpa using this
      generalize ({ wr with heap := wr.heap.setIfInBounds w.heap.size (.stringIter s (i + (Utf8.decode s i).2)) } : World) = w2 at hnx hbs hit2 hsz2
      have hle := decode_le s i
      have HB2 := Aside0.mk (HB.out.trans hbs)
      have HI2 := Aside0.mk hit2
      have HS2 := Aside0.mk hsz2
      clear hbs hit2 hsz2
      by_cases hx : (s[i]'hlt).toNat < 128
      · have hde := decode_ascii s i hlt hx
        obtain ⟨x, hxe⟩ : ∃ x : UInt8, s[i]'hlt = x := ⟨_, rfl⟩
        rw [hxe] at hde hx
        have hxl : s.data.toList[i]? = some x := by rw [← hxe]; exact Lib.data_getElem? s i hlt
        rw [hde] at hnx HI2
        have hback : ((x.toNat : Int)).toNat.toUInt8 = x := by simp
        have hru := rune_any (x.toNat : Int) w2 (by omega) (by omega)
        rw [if_pos (by omega), hback] at hru
        have hcon := Lib.contains_iff_indexByte nulCr.data.toList x
        have HX := Aside0.mk hxl
        clear hde hxl hback hxe hle
        cases hin : nulCr.data.toList.contains x with
        | false =>
          rw [hin] at hcon
          have hl : ¬ ((0 : Int) ≤ Lib.indexByte nulCr.data.toList x) := of_decide_eq_false hcon.symm
          have HC := Aside0.mk hin
          clear hcon hin
          generalize Lib.indexByte nulCr.data.toList x = k at hru hl
          go_wp2_with (go_at_call 85; refine hru.mono ?_; rintro e w3 ⟨rfl, hb⟩)
          go_roundg g
          case measure => omega
          case rel => exact ⟨i + 1, by omega, by omega, HB2.out.trans (hb.mono (by have := HS2.out; omega)), (hb.block _ HS2.out).trans HI2.out, HN.out.succ HX.out HC.out⟩
        | true =>
          rw [hin] at hcon
          have hl : ((0 : Int) ≤ Lib.indexByte nulCr.data.toList x) := of_decide_eq_true hcon.symm
          have HC := Aside0.mk hin
          clear hcon hin
          generalize Lib.indexByte nulCr.data.toList x = k at hru hl
          go_wp2_with (go_at_call 85; refine hru.mono ?_; rintro e w3 ⟨rfl, hb⟩)
          go_ret
          exact ⟨by rw [Lib.indexAny_hit HN.out HX.out HC.out]; rfl, HB2.out.trans (hb.mono (by have := HS2.out; omega))⟩
      · have hx' : 128 ≤ (s[i]'hlt).toNat := by omega
        obtain ⟨h1, h2⟩ := decode_high s i hlt hx'
        obtain ⟨d1, d2, d3⟩ := decode_step s i hlt hx'
        have hru := rune_any ((Utf8.decode s i).1 : Int) w2 (by omega) (by omega)
        rw [if_neg (by omega)] at hru
        have HD := Aside0.mk d3
        clear d3 hx hx' h1 h2 hle
        generalize Utf8.decode s i = dd at *
        obtain ⟨c, n⟩ := dd
        simp only at *
        go_wp2_with (go_at_call 85; refine hru.mono ?_; rintro e w3 ⟨rfl, hb⟩)
        go_roundg g
        case measure => omega
        case rel => exact ⟨i + n, d1, by omega, HB2.out.trans (hb.mono (by have := HS2.out; omega)), (hb.block _ HS2.out).trans HI2.out, NoAny_skip HN.out HD.out⟩
    · obtain rfl : i = s.size := by omega
      have hnx := fun ty => next_gen_end (P := Tryd.prog) wr s w.heap.size s.size ty HI.out hlt
      go_wp2
      go_ret
      exact ⟨by rw [Lib.indexAny_none (by rw [← Lib.size_eq]; exact HN.out)]; rfl, HB.out⟩
set_option maxRecDepth 1000000 in
theorem indexAny_all (s : ByteArray) (w : World) (hs : s.size < 4294967281) :
    Calls Tryd.prog 69 #[.string s, .string nulCr] w fun e w' => e = .returned (.int .i64 (Lib.indexAny s.data.toList nulCr.data.toList)) ∧ Below w.heap.size w w' := by
  by_cases h8 : s.size ≤ 8
  · exact indexAny_short s w h8
  · refine (Tryd.strings_IndexAny_long (zero_of_info zero256).1 s nulCr w (by decide) (by omega) hs (by decide) nulCr_small).mono ?_
    rintro e w' ⟨rfl, rfl⟩
    exact ⟨rfl, ((Below.refl _ w).alloc (Nat.le_refl _) _).alloc (by simp) _⟩
set_option maxHeartbeats 1000000 in
theorem strings_ContainsAny.calls (a0 a1 : ByteArray) (r : Bool) (w : World) (h : strings_ContainsAny.f a0 a1 = some r) :
    Calls Tryd.prog 50 #[.string a0, .string a1] w fun e w' => e = .returned (.bool r) ∧ Below w.heap.size w w' := by
  unfold strings_ContainsAny.f at h
  split at h
  case isFalse => cases h
  rename_i hs
  obtain ⟨hs, rfl⟩ := hs
  cases h
  rw [← nulCr_any]
  have hc := indexAny_all a0 w hs
  generalize Lib.indexAny a0.data.toList nulCr.data.toList = n at hc
  generalize nulCr = t at hc
  go_enter Tryd.func50, Tryd.ntmps50
  go_wp2_with (go_at_call 69; refine hc.mono ?_; rintro e w1 ⟨rfl, hb⟩)
  go_ret
  exact ⟨rfl, hb⟩
end Go.Proofs.YtpnhjipaeggcpaaDoor.X
end
section
namespace Go.Proofs.YtpnhjipaeggcpaaDoor.X
open Go.RowKit Go.Proofs.YtpnhjipaeggcpaaDoorW.PrintWords Go.Proofs.YtpnhjipaeggcpaaDoorW.PrintLast Go.Proofs.YtpnhjipaeggcpaaDoorW.PrintMore
attribute [local go_sem] max2_int min2_int max_two min_two max_three min_three max_four min_four
def chars_Right.f (a0 : ByteArray) : Option (Bool) := (utf8_ValidString.f a0).bind fun t269 => (some t269)
set_option maxHeartbeats 8000000 in
set_option maxRecDepth 100000 in
theorem chars_Right.calls (a0 : ByteArray) (r : Bool) (w : World) (h : chars_Right.f a0 = some r) (hT : WF w := by exact WF.below hT y22_) :
  Calls Tryd.prog 49 #[.string a0] w fun e w' => e = .returned (.bool r) ∧ Below w.heap.size w w' := by
 have HB := Aside0.mk (Below.refl w.heap.size w)
 have H : ((utf8_ValidString.f a0).bind fun t269 => (some t269)) = some r := h
 clear h
 replace H := Option.bind_eq_some_iff.mp H
 obtain ⟨t269, A20, H⟩ := H
 have A2 := Aside0.mk A20
 clear A20
 obtain rfl := Option.some.inj H
 go_enter Tryd.func49, Tryd.ntmps49
 go_wp2_with (first | ((with_reducible refine gate_callee (f := 68) rfl ?_); refine goesL_ (some 4) rfl rfl Tryd.func68 (by kernel_rfl) rfl #[.string a0] rfl y15_ ?_; (with_reducible refine (utf8_ValidString.calls a0 t269 _ A2.out).mono ?_); rintro e w3 ⟨rfl, hb⟩; refine ⟨_, rfl, ?_⟩; have n0_ := Aside0.mk (below_step y14_ hb); clear HB; have HB := n0_; clear n0_; (try clear hb); (try clear hb2); (try clear hk); (try clear hi)))
 go_ret
 exact ⟨y13_, y14_⟩
end Go.Proofs.YtpnhjipaeggcpaaDoor.X
end
section
namespace Go.Proofs.YtpnhjipaeggcpaaDoor.X
open Go.RowKit Go.Proofs.YtpnhjipaeggcpaaDoorW.PrintWords Go.Proofs.YtpnhjipaeggcpaaDoorW.PrintLast Go.Proofs.YtpnhjipaeggcpaaDoorW.PrintMore
attribute [local go_sem] max2_int min2_int max_two min_two max_three min_three max_four min_four
def write_clean.f (a0 : ByteArray) : Option (Bool) := (chars_Right.f a0).bind fun t270 => (if t270 = true then ((strings_ContainsAny.f a0 (⟨#[0, 13]⟩ : ByteArray)).bind fun t271 => (some (!t271))) else (some false))
set_option maxHeartbeats 8000000 in
set_option maxRecDepth 100000 in
theorem write_clean.calls (a0 : ByteArray) (r : Bool) (w : World) (h : write_clean.f a0 = some r) (hT : WF w := by exact WF.below hT y22_) :
  Calls Tryd.prog 30 #[.string a0] w fun e w' => e = .returned (.bool r) ∧ Below w.heap.size w w' := by
 have HB := Aside0.mk (Below.refl w.heap.size w)
 have H : ((chars_Right.f a0).bind fun t270 => (if t270 = true then ((strings_ContainsAny.f a0 (⟨#[0, 13]⟩ : ByteArray)).bind fun t271 => (some (!t271))) else (some false))) = some r := h
 clear h
 replace H := Option.bind_eq_some_iff.mp H
 obtain ⟨t270, A20, H⟩ := H
 have A2 := Aside0.mk A20
 clear A20
 by_cases c3 : t270 = true
 ·subst c3
  rw [if_pos rfl] at H
  replace H := Option.bind_eq_some_iff.mp H
  obtain ⟨t271, A40, H⟩ := H
  have A4 := Aside0.mk A40
  clear A40
  obtain rfl := Option.some.inj H
  go_enter Tryd.func30, Tryd.ntmps30
  go_wp2_with (first | ((with_reducible refine gate_callee (f := 49) rfl ?_); refine goesL_ (some 4) rfl rfl Tryd.func49 (by kernel_rfl) rfl #[.string a0] rfl y15_ ?_; (with_reducible refine (chars_Right.calls a0 true _ A2.out).mono ?_); rintro e w5 ⟨rfl, hb⟩; refine ⟨_, rfl, ?_⟩; have n0_ := Aside0.mk (below_step y14_ hb); clear HB; have HB := n0_; clear n0_; (try clear hb); (try clear hb2); (try clear hk); (try clear hi)) | (go_at_call 50; (with_reducible refine (strings_ContainsAny.calls a0 (⟨#[0, 13]⟩ : ByteArray) t271 _ A4.out).mono ?_); rintro e w6 ⟨rfl, hb⟩; have n0_ := Aside0.mk (below_step y14_ hb); clear HB; have HB := n0_; clear n0_; (try clear hb); (try clear hb2); (try clear hk); (try clear hi)))
  go_ret
  exact ⟨y13_, y14_⟩
 ·replace c3 := Bool.eq_false_iff.mpr c3
  subst c3
  rw [if_neg (show ¬ (false = true) by decide)] at H
  obtain rfl := Option.some.inj H
  go_enter Tryd.func30, Tryd.ntmps30
  go_wp2_with (first | ((with_reducible refine gate_callee (f := 49) rfl ?_); refine goesL_ (some 4) rfl rfl Tryd.func49 (by kernel_rfl) rfl #[.string a0] rfl y15_ ?_; (with_reducible refine (chars_Right.calls a0 false _ A2.out).mono ?_); rintro e w7 ⟨rfl, hb⟩; refine ⟨_, rfl, ?_⟩; have n0_ := Aside0.mk (below_step y14_ hb); clear HB; have HB := n0_; clear n0_; (try clear hb); (try clear hb2); (try clear hk); (try clear hi)))
  go_ret
  exact ⟨y13_, y14_⟩
end Go.Proofs.YtpnhjipaeggcpaaDoor.X
end
section
namespace Go.Proofs.YtpnhjipaeggcpaaDoor.X
open Go.RowKit Go.Proofs.YtpnhjipaeggcpaaDoorW.PrintWords Go.Proofs.YtpnhjipaeggcpaaDoorW.PrintLast Go.Proofs.YtpnhjipaeggcpaaDoorW.PrintMore
attribute [local go_sem] max2_int min2_int max_two min_two max_three min_three max_four min_four
mutual
def write_element.j0 : Nat → Bool → Int → Int → ByteArray → ByteArray → List (S41) → Option (Bool)
 | 0, _, _, _, _, _, _ => none
 | k + 1, x28, x370000, x370001, x370002, x370003, x370004 => if x28 = true then (some false) else (write_element.l0 k x370004 (x370004.length : Int) 0)
def write_element.l0 : Nat → List (S41) → Int → Int → Option (Bool)
 | 0, _, _, _ => none
 | k + 1, x30, x31, x32 => if x32 < x31 then (if 0 ≤ x32 then (if x32 < (x30.length : Int) then ((names_Attr.f k ((rd_T41 x30 x32).f0)).bind fun t376 => (if t376 = true then ((write_clean.f ((rd_T41 x30 x32).f0)).bind fun t377 => (if t377 = true then ((write_clean.f ((rd_T41 x30 x32).f1)).bind fun t378 => (if t378 = true then (write_element.l0 k x30 x31 (wrap64 (x32 + 1))) else (some false))) else (some false))) else (some false))) else (none)) else (none)) else (some true)
end
def write_element.f (k : Nat) (a0_0 : Int) (a0_1 : Int) (a0_2 : ByteArray) (a0_3 : ByteArray) (l0_4 : List (S41)) (l1 : List ByteArray) : Option (Bool) := (names_Right.f k a0_2).bind fun t370 => (if t370 = true then ((names_Gone.f k a0_2).bind fun t371 => (if t371 = true then (write_element.j0 k true a0_0 a0_1 a0_2 a0_3 l0_4) else ((write_clean.f a0_2).bind fun t372 => (if t372 = true then ((build_Nested.f k a0_2 l1).bind fun t373 => (write_element.j0 k (!t373) a0_0 a0_1 a0_2 a0_3 l0_4)) else (write_element.j0 k true a0_0 a0_1 a0_2 a0_3 l0_4))))) else (write_element.j0 k true a0_0 a0_1 a0_2 a0_3 l0_4))
set_option maxHeartbeats 8000000 in
set_option maxRecDepth 100000 in
theorem write_element.calls (k : Nat) (a0_0 : Int) (a0_1 : Int) (a0_2 : ByteArray) (a0_3 : ByteArray) (A0_4 : Option Addr) (c0_4 : Nat) (l0_4 : List (S41)) (A1 : Option Addr) (c1 : Nat) (l1 : List ByteArray) (r : Bool) (w : World) (hr0_4 : Kd.C k41 w A0_4 l0_4.length l0_4) (hc0_4 : l0_4.length ≤ c0_4) (hr1 : Kd.C Kd.string w A1 l1.length l1) (hc1 : l1.length ≤ c1) (h : write_element.f k a0_0 a0_1 a0_2 a0_3 l0_4 l1 = some r) (hT : WF w := by exact WF.below hT y22_) :
  Calls Tryd.prog 32 #[.agg #[.int .i64 a0_0, .int .i64 a0_1, .string a0_2, .string a0_3, .slice A0_4 l0_4.length c0_4], .slice A1 l1.length c1] w fun e w' => e = .returned (.bool r) ∧ Below w.heap.size w w' := by
 have hu35 := Tryd.underlying35
 have hu41 := Tryd.underlying41
 have HR0_4 := Aside0.mk hr0_4
 have HC0_4 := Aside0.mk hc0_4
 clear hr0_4 hc0_4
 have HR1 := Aside0.mk hr1
 have HC1 := Aside0.mk hc1
 clear hr1 hc1
 have HB := Aside0.mk (Below.refl w.heap.size w)
 have H : ((names_Right.f k a0_2).bind fun t370 => (if t370 = true then ((names_Gone.f k a0_2).bind fun t371 => (if t371 = true then (write_element.j0 k true a0_0 a0_1 a0_2 a0_3 l0_4) else ((write_clean.f a0_2).bind fun t372 => (if t372 = true then ((build_Nested.f k a0_2 l1).bind fun t373 => (write_element.j0 k (!t373) a0_0 a0_1 a0_2 a0_3 l0_4)) else (write_element.j0 k true a0_0 a0_1 a0_2 a0_3 l0_4))))) else (write_element.j0 k true a0_0 a0_1 a0_2 a0_3 l0_4))) = some r := h
 clear h
 have HC3 := Aside0.mk H
 clear H
 go_enter Tryd.func32, Tryd.ntmps32
 go_upto_region 1 with (first | ((with_reducible refine gate_dst (N := 2) rfl ?_); refine box_event ?hg (N := 2) ?hd (cs := #[.int .i64 a0_0, .int .i64 a0_1, .string a0_2, .string a0_3, .slice A0_4 l0_4.length c0_4]) (t := 35) ?hr ?_; (case hd => rfl); (case hg => rfl); (case hr => first | (go_simp; done) | (go_simp; rfl)); intro gb369 hg w4 hbox hb; have n0_ := Aside0.mk (below_step y14_ hb); have n1_ := Aside0.mk (hbox); have n2_ := Aside0.mk ((by rw [hg]; exact (below_size y14_) : w.heap.size ≤ gb369)); have n3_ := Aside0.mk ((by rw [hg]; exact (below_size y14_) : w.heap.size ≤ gb369)); clear HB; have HB := n0_; have BK369 := n1_; have GW369 := n2_; have GE369 := n3_; clear n0_ n1_ n2_ n3_; clear hb hbox hg))
 (try simp only [Act.put, List.setIfInBounds_toArray, List.set_cons_zero, List.set_cons_succ])
 go_cut [28] (fun v28 wc => ∃ (kq : Nat) (x28_2 : Bool), v28 = .bool x28_2 ∧ Aside0 (write_element.j0 kq x28_2 a0_0 a0_1 a0_2 a0_3 l0_4 = some r) ∧ Aside0 (kq ≤ k) ∧ Aside0 (wc.heap[gb369]? = some (.cells #[.int .i64 a0_0, .int .i64 a0_1, .string a0_2, .string a0_3, (.slice A0_4 l0_4.length c0_4)] 35 (0, 0))) ∧ Aside0 (Below w.heap.size w wc))
 case first =>
  have H := HC3.out
  clear HC3
  replace H := Option.bind_eq_some_iff.mp H
  obtain ⟨t370, A50, H⟩ := H
  have A5 := Aside0.mk A50
  clear A50
  by_cases c6 : t370 = true
  ·subst c6
   rw [if_pos rfl] at H
   replace H := Option.bind_eq_some_iff.mp H
   obtain ⟨t371, A70, H⟩ := H
   have A7 := Aside0.mk A70
   clear A70
   by_cases c8 : t371 = true
   ·subst c8
    rw [if_pos rfl] at H
    have H' := Aside0.mk H
    clear H
    have hcz9_0 : w4.cell? ⟨gb369, 0, none⟩ = some (.int .i64 a0_0) := (blk_cell BK369.out 0).trans rfl
    have hcz9_1 : w4.cell? ⟨gb369, 1, none⟩ = some (.int .i64 a0_1) := (blk_cell BK369.out 1).trans rfl
    have hcz9_2 : w4.cell? ⟨gb369, 2, none⟩ = some (.string a0_2) := (blk_cell BK369.out 2).trans rfl
    have hcz9_3 : w4.cell? ⟨gb369, 3, none⟩ = some (.string a0_3) := (blk_cell BK369.out 3).trans rfl
    have hcz9_4 : w4.cell? ⟨gb369, 4, none⟩ = some (.slice A0_4 l0_4.length c0_4) := (blk_cell BK369.out 4).trans rfl
    have hfz9_0 := blk_frozen BK369.out 0
    have hfz9_1 := blk_frozen BK369.out 1
    have hfz9_2 := blk_frozen BK369.out 2
    have hfz9_3 := blk_frozen BK369.out 3
    have hfz9_4 := blk_frozen BK369.out 4
    go_wp2_with (first | ((with_reducible refine gate_callee (f := 53) rfl ?_); refine goesL_ (some 9) rfl rfl Tryd.func53 (by kernel_rfl) rfl #[.string a0_2] rfl y15_ ?_; (with_reducible refine (names_Right.calls k a0_2 true _ A5.out).mono ?_); rintro e w' ⟨rfl, ⟨nd, rfl⟩⟩; refine ⟨_, rfl, ?_⟩) | (go_at_call 54; (with_reducible refine (names_Gone.calls k a0_2 true _ A7.out).mono ?_); rintro e w10 ⟨rfl, hb⟩; have n0_ := Aside0.mk (blk_below (g := gb369) (o := .cells #[.int .i64 a0_0, .int .i64 a0_1, .string a0_2, .string a0_3, .slice A0_4 l0_4.length c0_4] 35 (0, 0)) (y12_ BK369.out) hb); have n1_ := Aside0.mk (below_step (y19_ GE369.out) hb); clear BK369; clear HB; have BK369 := n0_; have HB := n1_; clear n0_ n1_; (try clear hb); (try clear hb2); (try clear hk); (try clear hi)))
    go_meet
    case rel => exact ⟨_, (true), y5_, H', ⟨y1_⟩, ⟨by (with_reducible repeat (first | refine blk_drewN ?_ _ | refine blk_drew ?_ | refine blk_alloc ?_ _)); exact BK369.out⟩, ⟨(y19_ GE369.out)⟩⟩
   ·replace c8 := Bool.eq_false_iff.mpr c8
    subst c8
    rw [if_neg (show ¬ (false = true) by decide)] at H
    replace H := Option.bind_eq_some_iff.mp H
    obtain ⟨t372, A110, H⟩ := H
    have A11 := Aside0.mk A110
    clear A110
    by_cases c12 : t372 = true
    ·subst c12
     rw [if_pos rfl] at H
     replace H := Option.bind_eq_some_iff.mp H
     obtain ⟨t373, A130, H⟩ := H
     have A13 := Aside0.mk A130
     clear A130
     have H' := Aside0.mk H
     clear H
     have hcz14_0 : w4.cell? ⟨gb369, 0, none⟩ = some (.int .i64 a0_0) := (blk_cell BK369.out 0).trans rfl
     have hcz14_1 : w4.cell? ⟨gb369, 1, none⟩ = some (.int .i64 a0_1) := (blk_cell BK369.out 1).trans rfl
     have hcz14_2 : w4.cell? ⟨gb369, 2, none⟩ = some (.string a0_2) := (blk_cell BK369.out 2).trans rfl
     have hcz14_3 : w4.cell? ⟨gb369, 3, none⟩ = some (.string a0_3) := (blk_cell BK369.out 3).trans rfl
     have hcz14_4 : w4.cell? ⟨gb369, 4, none⟩ = some (.slice A0_4 l0_4.length c0_4) := (blk_cell BK369.out 4).trans rfl
     have hfz14_0 := blk_frozen BK369.out 0
     have hfz14_1 := blk_frozen BK369.out 1
     have hfz14_2 := blk_frozen BK369.out 2
     have hfz14_3 := blk_frozen BK369.out 3
     have hfz14_4 := blk_frozen BK369.out 4
     go_wp2_with (first | ((with_reducible refine gate_callee (f := 53) rfl ?_); refine goesL_ (some 9) rfl rfl Tryd.func53 (by kernel_rfl) rfl #[.string a0_2] rfl y15_ ?_; (with_reducible refine (names_Right.calls k a0_2 true _ A5.out).mono ?_); rintro e w' ⟨rfl, ⟨nd, rfl⟩⟩; refine ⟨_, rfl, ?_⟩) | (go_at_call 54; (with_reducible refine (names_Gone.calls k a0_2 false _ A7.out).mono ?_); rintro e w15 ⟨rfl, hb⟩; have n0_ := Aside0.mk (blk_below (g := gb369) (o := .cells #[.int .i64 a0_0, .int .i64 a0_1, .string a0_2, .string a0_3, .slice A0_4 l0_4.length c0_4] 35 (0, 0)) (y12_ BK369.out) hb); have n1_ := Aside0.mk (below_step (y19_ GE369.out) hb); clear BK369; clear HB; have BK369 := n0_; have HB := n1_; clear n0_ n1_; (try clear hb); (try clear hb2); (try clear hk); (try clear hi); have hcz16_0 : w15.cell? ⟨gb369, 0, none⟩ = some (.int .i64 a0_0) := (blk_cell BK369.out 0).trans rfl; have hcz16_1 : w15.cell? ⟨gb369, 1, none⟩ = some (.int .i64 a0_1) := (blk_cell BK369.out 1).trans rfl; have hcz16_2 : w15.cell? ⟨gb369, 2, none⟩ = some (.string a0_2) := (blk_cell BK369.out 2).trans rfl; have hcz16_3 : w15.cell? ⟨gb369, 3, none⟩ = some (.string a0_3) := (blk_cell BK369.out 3).trans rfl; have hcz16_4 : w15.cell? ⟨gb369, 4, none⟩ = some (.slice A0_4 l0_4.length c0_4) := (blk_cell BK369.out 4).trans rfl; have hfz16_0 := blk_frozen BK369.out 0; have hfz16_1 := blk_frozen BK369.out 1; have hfz16_2 := blk_frozen BK369.out 2; have hfz16_3 := blk_frozen BK369.out 3; have hfz16_4 := blk_frozen BK369.out 4) | (go_at_call 30; (with_reducible refine (write_clean.calls a0_2 true _ A11.out).mono ?_); rintro e w17 ⟨rfl, hb⟩; have n0_ := Aside0.mk (blk_below (g := gb369) (o := .cells #[.int .i64 a0_0, .int .i64 a0_1, .string a0_2, .string a0_3, .slice A0_4 l0_4.length c0_4] 35 (0, 0)) (y12_ BK369.out) hb); have n1_ := Aside0.mk (below_step (y19_ GE369.out) hb); clear BK369; clear HB; have BK369 := n0_; have HB := n1_; clear n0_ n1_; (try clear hb); (try clear hb2); (try clear hk); (try clear hi); have hcz18_0 : w17.cell? ⟨gb369, 0, none⟩ = some (.int .i64 a0_0) := (blk_cell BK369.out 0).trans rfl; have hcz18_1 : w17.cell? ⟨gb369, 1, none⟩ = some (.int .i64 a0_1) := (blk_cell BK369.out 1).trans rfl; have hcz18_2 : w17.cell? ⟨gb369, 2, none⟩ = some (.string a0_2) := (blk_cell BK369.out 2).trans rfl; have hcz18_3 : w17.cell? ⟨gb369, 3, none⟩ = some (.string a0_3) := (blk_cell BK369.out 3).trans rfl; have hcz18_4 : w17.cell? ⟨gb369, 4, none⟩ = some (.slice A0_4 l0_4.length c0_4) := (blk_cell BK369.out 4).trans rfl; have hfz18_0 := blk_frozen BK369.out 0; have hfz18_1 := blk_frozen BK369.out 1; have hfz18_2 := blk_frozen BK369.out 2; have hfz18_3 := blk_frozen BK369.out 3; have hfz18_4 := blk_frozen BK369.out 4) | (go_at_call 55; (with_reducible refine (build_Nested.calls k a0_2 _ _ l1 t373 _ ?side1 ?side2 A13.out).mono ?_); (case side1 => repeat (first | exact (Kd.C_below HR1.out HB.out) | (with_reducible refine Kd.C_alloc ?_ _) | (with_reducible refine Kd.C_drewN ?_ _) | (with_reducible refine Kd.C_drew ?_))); (case side2 => exact HC1.out); rintro e w19 ⟨rfl, hb⟩; have n0_ := Aside0.mk (blk_below (g := gb369) (o := .cells #[.int .i64 a0_0, .int .i64 a0_1, .string a0_2, .string a0_3, .slice A0_4 l0_4.length c0_4] 35 (0, 0)) (y12_ BK369.out) hb); have n1_ := Aside0.mk (below_step (y19_ GE369.out) hb); clear BK369; clear HB; have BK369 := n0_; have HB := n1_; clear n0_ n1_; (try clear hb); (try clear hb2); (try clear hk); (try clear hi)))
     go_meet
     case rel => exact ⟨_, (!t373), y5_, H', ⟨y1_⟩, ⟨by (with_reducible repeat (first | refine blk_drewN ?_ _ | refine blk_drew ?_ | refine blk_alloc ?_ _)); exact BK369.out⟩, ⟨(y19_ GE369.out)⟩⟩
    ·replace c12 := Bool.eq_false_iff.mpr c12
     subst c12
     rw [if_neg (show ¬ (false = true) by decide)] at H
     have H' := Aside0.mk H
     clear H
     have hcz20_0 : w4.cell? ⟨gb369, 0, none⟩ = some (.int .i64 a0_0) := (blk_cell BK369.out 0).trans rfl
     have hcz20_1 : w4.cell? ⟨gb369, 1, none⟩ = some (.int .i64 a0_1) := (blk_cell BK369.out 1).trans rfl
     have hcz20_2 : w4.cell? ⟨gb369, 2, none⟩ = some (.string a0_2) := (blk_cell BK369.out 2).trans rfl
     have hcz20_3 : w4.cell? ⟨gb369, 3, none⟩ = some (.string a0_3) := (blk_cell BK369.out 3).trans rfl
     have hcz20_4 : w4.cell? ⟨gb369, 4, none⟩ = some (.slice A0_4 l0_4.length c0_4) := (blk_cell BK369.out 4).trans rfl
     have hfz20_0 := blk_frozen BK369.out 0
     have hfz20_1 := blk_frozen BK369.out 1
     have hfz20_2 := blk_frozen BK369.out 2
     have hfz20_3 := blk_frozen BK369.out 3
     have hfz20_4 := blk_frozen BK369.out 4
     go_wp2_with (first | ((with_reducible refine gate_callee (f := 53) rfl ?_); refine goesL_ (some 9) rfl rfl Tryd.func53 (by kernel_rfl) rfl #[.string a0_2] rfl y15_ ?_; (with_reducible refine (names_Right.calls k a0_2 true _ A5.out).mono ?_); rintro e w' ⟨rfl, ⟨nd, rfl⟩⟩; refine ⟨_, rfl, ?_⟩) | (go_at_call 54; (with_reducible refine (names_Gone.calls k a0_2 false _ A7.out).mono ?_); rintro e w21 ⟨rfl, hb⟩; have n0_ := Aside0.mk (blk_below (g := gb369) (o := .cells #[.int .i64 a0_0, .int .i64 a0_1, .string a0_2, .string a0_3, .slice A0_4 l0_4.length c0_4] 35 (0, 0)) (y12_ BK369.out) hb); have n1_ := Aside0.mk (below_step (y19_ GE369.out) hb); clear BK369; clear HB; have BK369 := n0_; have HB := n1_; clear n0_ n1_; (try clear hb); (try clear hb2); (try clear hk); (try clear hi); have hcz22_0 : w21.cell? ⟨gb369, 0, none⟩ = some (.int .i64 a0_0) := (blk_cell BK369.out 0).trans rfl; have hcz22_1 : w21.cell? ⟨gb369, 1, none⟩ = some (.int .i64 a0_1) := (blk_cell BK369.out 1).trans rfl; have hcz22_2 : w21.cell? ⟨gb369, 2, none⟩ = some (.string a0_2) := (blk_cell BK369.out 2).trans rfl; have hcz22_3 : w21.cell? ⟨gb369, 3, none⟩ = some (.string a0_3) := (blk_cell BK369.out 3).trans rfl; have hcz22_4 : w21.cell? ⟨gb369, 4, none⟩ = some (.slice A0_4 l0_4.length c0_4) := (blk_cell BK369.out 4).trans rfl; have hfz22_0 := blk_frozen BK369.out 0; have hfz22_1 := blk_frozen BK369.out 1; have hfz22_2 := blk_frozen BK369.out 2; have hfz22_3 := blk_frozen BK369.out 3; have hfz22_4 := blk_frozen BK369.out 4) | (go_at_call 30; (with_reducible refine (write_clean.calls a0_2 false _ A11.out).mono ?_); rintro e w23 ⟨rfl, hb⟩; have n0_ := Aside0.mk (blk_below (g := gb369) (o := .cells #[.int .i64 a0_0, .int .i64 a0_1, .string a0_2, .string a0_3, .slice A0_4 l0_4.length c0_4] 35 (0, 0)) (y12_ BK369.out) hb); have n1_ := Aside0.mk (below_step (y19_ GE369.out) hb); clear BK369; clear HB; have BK369 := n0_; have HB := n1_; clear n0_ n1_; (try clear hb); (try clear hb2); (try clear hk); (try clear hi)))
     go_meet
     case rel => exact ⟨_, (true), y5_, H', ⟨y1_⟩, ⟨by (with_reducible repeat (first | refine blk_drewN ?_ _ | refine blk_drew ?_ | refine blk_alloc ?_ _)); exact BK369.out⟩, ⟨(y19_ GE369.out)⟩⟩
  ·replace c6 := Bool.eq_false_iff.mpr c6
   subst c6
   rw [if_neg (show ¬ (false = true) by decide)] at H
   have H' := Aside0.mk H
   clear H
   have hcz24_0 : w4.cell? ⟨gb369, 0, none⟩ = some (.int .i64 a0_0) := (blk_cell BK369.out 0).trans rfl
   have hcz24_1 : w4.cell? ⟨gb369, 1, none⟩ = some (.int .i64 a0_1) := (blk_cell BK369.out 1).trans rfl
   have hcz24_2 : w4.cell? ⟨gb369, 2, none⟩ = some (.string a0_2) := (blk_cell BK369.out 2).trans rfl
   have hcz24_3 : w4.cell? ⟨gb369, 3, none⟩ = some (.string a0_3) := (blk_cell BK369.out 3).trans rfl
   have hcz24_4 : w4.cell? ⟨gb369, 4, none⟩ = some (.slice A0_4 l0_4.length c0_4) := (blk_cell BK369.out 4).trans rfl
   have hfz24_0 := blk_frozen BK369.out 0
   have hfz24_1 := blk_frozen BK369.out 1
   have hfz24_2 := blk_frozen BK369.out 2
   have hfz24_3 := blk_frozen BK369.out 3
   have hfz24_4 := blk_frozen BK369.out 4
   go_wp2_with (first | ((with_reducible refine gate_callee (f := 53) rfl ?_); refine goesL_ (some 9) rfl rfl Tryd.func53 (by kernel_rfl) rfl #[.string a0_2] rfl y15_ ?_; (with_reducible refine (names_Right.calls k a0_2 false _ A5.out).mono ?_); rintro e w' ⟨rfl, ⟨nd, rfl⟩⟩; refine ⟨_, rfl, ?_⟩))
   go_meet
   case rel => exact ⟨_, (true), y5_, H', ⟨y1_⟩, ⟨by (with_reducible repeat (first | refine blk_drewN ?_ _ | refine blk_drew ?_ | refine blk_alloc ?_ _)); exact BK369.out⟩, ⟨(y19_ GE369.out)⟩⟩
 case rest =>
  clear HC3
  try clear c1
  try clear p2
  try clear c3
  try clear c5
  try clear c6
  try clear c8
  try clear c12
  try clear hcz14_0
  try clear hcz14_1
  try clear hcz14_2
  try clear hcz14_3
  try clear hcz14_4
  try clear hcz16_0
  try clear hcz16_1
  try clear hcz16_2
  try clear hcz16_3
  try clear hcz16_4
  try clear hcz18_0
  try clear hcz18_1
  try clear hcz18_2
  try clear hcz18_3
  try clear hcz18_4
  try clear hcz20_0
  try clear hcz20_1
  try clear hcz20_2
  try clear hcz20_3
  try clear hcz20_4
  try clear hcz22_0
  try clear hcz22_1
  try clear hcz22_2
  try clear hcz22_3
  try clear hcz22_4
  try clear hcz24_0
  try clear hcz24_1
  try clear hcz24_2
  try clear hcz24_3
  try clear hcz24_4
  try clear hcz9_0
  try clear hcz9_1
  try clear hcz9_2
  try clear hcz9_3
  try clear hcz9_4
  try clear hfz14_0
  try clear hfz14_1
  try clear hfz14_2
  try clear hfz14_3
  try clear hfz14_4
  try clear hfz16_0
  try clear hfz16_1
  try clear hfz16_2
  try clear hfz16_3
  try clear hfz16_4
  try clear hfz18_0
  try clear hfz18_1
  try clear hfz18_2
  try clear hfz18_3
  try clear hfz18_4
  try clear hfz20_0
  try clear hfz20_1
  try clear hfz20_2
  try clear hfz20_3
  try clear hfz20_4
  try clear hfz22_0
  try clear hfz22_1
  try clear hfz22_2
  try clear hfz22_3
  try clear hfz22_4
  try clear hfz24_0
  try clear hfz24_1
  try clear hfz24_2
  try clear hfz24_3
  try clear hfz24_4
  try clear hfz9_0
  try clear hfz9_1
  try clear hfz9_2
  try clear hfz9_3
  try clear hfz9_4
  obtain ⟨kq, x28_2, rfl, HA, HJ2, BK369, HB⟩ := hcut
  cases kq with
  | zero => exact absurd HA.out (by simp [write_element.j0])
  | succ kj2 =>
   have H := HA.out
   clear HA
   simp only [write_element.j0] at H
   by_cases c25 : x28_2 = true
   ·subst c25
    rw [if_pos rfl] at H
    obtain rfl := Option.some.inj H
    go_wp2
    go_ret
    exact ⟨y13_, (y19_ GE369.out)⟩
   ·replace c25 := Bool.eq_false_iff.mpr c25
    subst c25
    rw [if_neg (show ¬ (false = true) by decide)] at H
    have H' := Aside0.mk H
    clear H
    have hcz26_0 : wc.cell? ⟨gb369, 0, none⟩ = some (.int .i64 a0_0) := (blk_cell BK369.out 0).trans rfl
    have hcz26_1 : wc.cell? ⟨gb369, 1, none⟩ = some (.int .i64 a0_1) := (blk_cell BK369.out 1).trans rfl
    have hcz26_2 : wc.cell? ⟨gb369, 2, none⟩ = some (.string a0_2) := (blk_cell BK369.out 2).trans rfl
    have hcz26_3 : wc.cell? ⟨gb369, 3, none⟩ = some (.string a0_3) := (blk_cell BK369.out 3).trans rfl
    have hcz26_4 : wc.cell? ⟨gb369, 4, none⟩ = some (.slice A0_4 l0_4.length c0_4) := (blk_cell BK369.out 4).trans rfl
    have hfz26_0 := blk_frozen BK369.out 0
    have hfz26_1 := blk_frozen BK369.out 1
    have hfz26_2 := blk_frozen BK369.out 2
    have hfz26_3 := blk_frozen BK369.out 3
    have hfz26_4 := blk_frozen BK369.out 4
    go_wp2
    go_loopg [32] kj2 (fun kq v32 w' => ∃ (x32_2 : Int), v32 = .int .i64 x32_2 ∧ Aside0 (write_element.l0 kq l0_4 (l0_4.length : Int) x32_2 = some r) ∧ Aside0 (kq ≤ kj2) ∧ Aside0 (w'.heap[gb369]? = some (.cells #[.int .i64 a0_0, .int .i64 a0_1, .string a0_2, .string a0_3, (.slice A0_4 l0_4.length c0_4)] 35 (0, 0))) ∧ Aside0 (Below w.heap.size w w'))
    case atStart => exact ⟨(0), y5_, H', ⟨Nat.le_refl _⟩, ⟨by (with_reducible repeat (first | refine blk_drewN ?_ _ | refine blk_drew ?_ | refine blk_alloc ?_ _)); exact BK369.out⟩, ⟨(y19_ GE369.out)⟩⟩
    case round =>
     clear H'
     try clear c1
     try clear c2
     try clear p2
     try clear c3
     try clear c5
     try clear c6
     try clear c8
     try clear c12
     try clear c25
     try clear hcz14_0
     try clear hcz14_1
     try clear hcz14_2
     try clear hcz14_3
     try clear hcz14_4
     try clear hcz16_0
     try clear hcz16_1
     try clear hcz16_2
     try clear hcz16_3
     try clear hcz16_4
     try clear hcz18_0
     try clear hcz18_1
     try clear hcz18_2
     try clear hcz18_3
     try clear hcz18_4
     try clear hcz20_0
     try clear hcz20_1
     try clear hcz20_2
     try clear hcz20_3
     try clear hcz20_4
     try clear hcz22_0
     try clear hcz22_1
     try clear hcz22_2
     try clear hcz22_3
     try clear hcz22_4
     try clear hcz24_0
     try clear hcz24_1
     try clear hcz24_2
     try clear hcz24_3
     try clear hcz24_4
     try clear hcz26_0
     try clear hcz26_1
     try clear hcz26_2
     try clear hcz26_3
     try clear hcz26_4
     try clear hcz9_0
     try clear hcz9_1
     try clear hcz9_2
     try clear hcz9_3
     try clear hcz9_4
     try clear hfz14_0
     try clear hfz14_1
     try clear hfz14_2
     try clear hfz14_3
     try clear hfz14_4
     try clear hfz16_0
     try clear hfz16_1
     try clear hfz16_2
     try clear hfz16_3
     try clear hfz16_4
     try clear hfz18_0
     try clear hfz18_1
     try clear hfz18_2
     try clear hfz18_3
     try clear hfz18_4
     try clear hfz20_0
     try clear hfz20_1
     try clear hfz20_2
     try clear hfz20_3
     try clear hfz20_4
     try clear hfz22_0
     try clear hfz22_1
     try clear hfz22_2
     try clear hfz22_3
     try clear hfz22_4
     try clear hfz24_0
     try clear hfz24_1
     try clear hfz24_2
     try clear hfz24_3
     try clear hfz24_4
     try clear hfz26_0
     try clear hfz26_1
     try clear hfz26_2
     try clear hfz26_3
     try clear hfz26_4
     try clear hfz9_0
     try clear hfz9_1
     try clear hfz9_2
     try clear hfz9_3
     try clear hfz9_4
     try clear p2
     obtain ⟨x32_2, rfl, HA, HK2, BK369, HB⟩ := hrel
     cases gk with
     | zero => exact absurd HA.out (by simp [write_element.l0])
     | succ k2 =>
      have H := HA.out
      clear HA
      simp only [write_element.l0] at H
      by_cases c27 : x32_2 < (l0_4.length : Int)
      ·rw [if_pos c27] at H
       have c27b0 : decide (x32_2 < (l0_4.length : Int)) = true := decide_eq_true c27
       clear c27
       by_cases c28 : 0 ≤ x32_2
       rotate_left
       ·rw [if_neg c28] at H
        exact absurd H (by simp)
       rw [if_pos c28] at H
       have c28b0 : decide (0 ≤ x32_2) = true := decide_eq_true c28
       clear c28
       by_cases c29 : x32_2 < (l0_4.length : Int)
       rotate_left
       ·rw [if_neg c29] at H
        exact absurd H (by simp)
       rw [if_pos c29] at H
       have c29b0 : decide (x32_2 < (l0_4.length : Int)) = true := decide_eq_true c29
       clear c29
       replace H := Option.bind_eq_some_iff.mp H
       obtain ⟨t376, A300, H⟩ := H
       have A30 := Aside0.mk A300
       clear A300
       by_cases c31 : t376 = true
       ·subst c31
        rw [if_pos rfl] at H
        replace H := Option.bind_eq_some_iff.mp H
        obtain ⟨t377, A320, H⟩ := H
        have A32 := Aside0.mk A320
        clear A320
        by_cases c33 : t377 = true
        ·subst c33
         rw [if_pos rfl] at H
         replace H := Option.bind_eq_some_iff.mp H
         obtain ⟨t378, A340, H⟩ := H
         have A34 := Aside0.mk A340
         clear A340
         by_cases c35 : t378 = true
         ·subst c35
          rw [if_pos rfl] at H
          have H' := Aside0.mk H
          clear H
          have p374 : 0 ≤ (x32_2 : Int) := of_decide_eq_true y2_
          have q374 : x32_2 < (l0_4.length : Int) := of_decide_eq_true y2_
          obtain ⟨ad374, e374, hx374_0, hx374_1⟩ := at_T41 HR0_4.out x32_2 p374 q374
          cases e374
          replace hx374_0 := (HB.out.cell (World.block_lt_of_cell? w _ hx374_0)).trans hx374_0
          replace hx374_1 := (HB.out.cell (World.block_lt_of_cell? w _ hx374_1)).trans hx374_1
          replace p374 := eq_true p374
          replace q374 := eq_true q374
          go_wp2_with (first | ((with_reducible refine gate_dst (N := 6) rfl ?_); refine box_event ?hg (N := 6) ?hd (cs := #[.string (⟨#[]⟩ : ByteArray), .string (⟨#[]⟩ : ByteArray)]) (t := 41) ?hr ?_; (case hd => rfl); (case hg => rfl); (case hr => first | (go_simp; done) | (go_simp; rfl)); intro gb375 hg w36 hbox hb; have n0_ := Aside0.mk (blk_below (g := gb369) (o := .cells #[.int .i64 a0_0, .int .i64 a0_1, .string a0_2, .string a0_3, .slice (some ad374) l0_4.length c0_4] 35 (0, 0)) (y12_ BK369.out) hb); have n1_ := Aside0.mk (below_step (y19_ GE369.out) hb); have n2_ := Aside0.mk (hbox); have n3_ := Aside0.mk ((by rw [hg]; exact (below_size (y19_ GE369.out)) : w.heap.size ≤ gb375)); have n4_ := Aside0.mk ((by rw [hg]; exact (below_size (y19_ GE369.out)) : w.heap.size ≤ gb375)); have n5_ := Aside0.mk ((by rw [hg]; exact Nat.ne_of_lt (blk_lt (g := gb369) (o := .cells #[.int .i64 a0_0, .int .i64 a0_1, .string a0_2, .string a0_3, .slice (some ad374) l0_4.length c0_4] 35 (0, 0)) (y12_ BK369.out)) : gb369 ≠ gb375)); have n6_ := Aside0.mk ((by rw [hg]; exact Nat.ne_of_gt (blk_lt (g := gb369) (o := .cells #[.int .i64 a0_0, .int .i64 a0_1, .string a0_2, .string a0_3, .slice (some ad374) l0_4.length c0_4] 35 (0, 0)) (y12_ BK369.out)) : gb375 ≠ gb369)); clear BK369; clear HB; have BK369 := n0_; have HB := n1_; have BK375 := n2_; have GW375 := n3_; have GE375 := n4_; have NB369_375 := n5_; have NB375_369 := n6_; clear n0_ n1_ n2_ n3_ n4_ n5_ n6_; clear hb hbox hg; have hnb37 := NB375_369.out; have hnc37 := NB369_375.out; have hcz38_0 : w36.cell? ⟨gb375, 0, none⟩ = some (.string (⟨#[]⟩ : ByteArray)) := (blk_cell BK375.out 0).trans rfl; have hcz38_1 : w36.cell? ⟨gb375, 1, none⟩ = some (.string (⟨#[]⟩ : ByteArray)) := (blk_cell BK375.out 1).trans rfl; have hfz38_0 := blk_frozen BK375.out 0; have hfz38_1 := blk_frozen BK375.out 1) | ((with_reducible refine gate_callee (f := 56) rfl ?_); refine goesL_ (some 38) rfl rfl Tryd.func56 (by kernel_rfl) rfl #[.string ((rd_T41 l0_4 x32_2).f0)] rfl y15_ ?_; (with_reducible refine (names_Attr.calls k2 ((rd_T41 l0_4 x32_2).f0) true _ A30.out).mono ?_); rintro e w' ⟨rfl, ⟨nd, rfl⟩⟩; refine ⟨_, rfl, ?_⟩) | (go_at_call 30; (with_reducible refine (write_clean.calls ((rd_T41 l0_4 x32_2).f0) true _ A32.out).mono ?_); rintro e w39 ⟨rfl, hb⟩; have n0_ := Aside0.mk (blk_below (g := gb369) (o := .cells #[.int .i64 a0_0, .int .i64 a0_1, .string a0_2, .string a0_3, .slice (some ad374) l0_4.length c0_4] 35 (0, 0)) (y27_ NB369_375.out BK369.out) hb); have n1_ := Aside0.mk (blk_below (g := gb375) (o := .cells #[.string ((rd_T41 l0_4 x32_2).f0), .string ((rd_T41 l0_4 x32_2).f1)] 41 (0, 0)) (y28_ BK375.out) hb); have n2_ := Aside0.mk (below_step (y21_ GE369.out GE375.out) hb); clear BK369; clear BK375; clear HB; have BK369 := n0_; have BK375 := n1_; have HB := n2_; clear n0_ n1_ n2_; (try clear hb); (try clear hb2); (try clear hk); (try clear hi); have hcz40_0 : w39.cell? ⟨gb375, 0, none⟩ = some (.string ((rd_T41 l0_4 x32_2).f0)) := (blk_cell BK375.out 0).trans rfl; have hcz40_1 : w39.cell? ⟨gb375, 1, none⟩ = some (.string ((rd_T41 l0_4 x32_2).f1)) := (blk_cell BK375.out 1).trans rfl; have hfz40_0 := blk_frozen BK375.out 0; have hfz40_1 := blk_frozen BK375.out 1) | (go_at_call 30; (with_reducible refine (write_clean.calls ((rd_T41 l0_4 x32_2).f1) true _ A34.out).mono ?_); rintro e w41 ⟨rfl, hb⟩; have n0_ := Aside0.mk (blk_below (g := gb369) (o := .cells #[.int .i64 a0_0, .int .i64 a0_1, .string a0_2, .string a0_3, .slice (some ad374) l0_4.length c0_4] 35 (0, 0)) (y12_ BK369.out) hb); have n1_ := Aside0.mk (blk_below (g := gb375) (o := .cells #[.string ((rd_T41 l0_4 x32_2).f0), .string ((rd_T41 l0_4 x32_2).f1)] 41 (0, 0)) (y12_ BK375.out) hb); have n2_ := Aside0.mk (below_step (y21_ GE369.out GE375.out) hb); clear BK369; clear BK375; clear HB; have BK369 := n0_; have BK375 := n1_; have HB := n2_; clear n0_ n1_ n2_; (try clear hb); (try clear hb2); (try clear hk); (try clear hi)))
          go_roundg k2
          case measure => have := HJ2.out; have := HK2.out; omega
          case rel => exact ⟨(wrap64 (x32_2 + 1)), y5_, H', ⟨by have := HJ2.out; have := HK2.out; omega⟩, ⟨by (with_reducible repeat (first | refine blk_drewN ?_ _ | refine blk_drew ?_ | refine blk_alloc ?_ _)); exact BK369.out⟩, ⟨(y21_ GE369.out GE375.out)⟩⟩
         ·replace c35 := Bool.eq_false_iff.mpr c35
          subst c35
          rw [if_neg (show ¬ (false = true) by decide)] at H
          obtain rfl := Option.some.inj H
          have p374 : 0 ≤ (x32_2 : Int) := of_decide_eq_true y2_
          have q374 : x32_2 < (l0_4.length : Int) := of_decide_eq_true y2_
          obtain ⟨ad374, e374, hx374_0, hx374_1⟩ := at_T41 HR0_4.out x32_2 p374 q374
          cases e374
          replace hx374_0 := (HB.out.cell (World.block_lt_of_cell? w _ hx374_0)).trans hx374_0
          replace hx374_1 := (HB.out.cell (World.block_lt_of_cell? w _ hx374_1)).trans hx374_1
          replace p374 := eq_true p374
          replace q374 := eq_true q374
          go_wp2_with (first | ((with_reducible refine gate_dst (N := 6) rfl ?_); refine box_event ?hg (N := 6) ?hd (cs := #[.string (⟨#[]⟩ : ByteArray), .string (⟨#[]⟩ : ByteArray)]) (t := 41) ?hr ?_; (case hd => rfl); (case hg => rfl); (case hr => first | (go_simp; done) | (go_simp; rfl)); intro gb375 hg w42 hbox hb; have n0_ := Aside0.mk (blk_below (g := gb369) (o := .cells #[.int .i64 a0_0, .int .i64 a0_1, .string a0_2, .string a0_3, .slice (some ad374) l0_4.length c0_4] 35 (0, 0)) (y12_ BK369.out) hb); have n1_ := Aside0.mk (below_step (y19_ GE369.out) hb); have n2_ := Aside0.mk (hbox); have n3_ := Aside0.mk ((by rw [hg]; exact (below_size (y19_ GE369.out)) : w.heap.size ≤ gb375)); have n4_ := Aside0.mk ((by rw [hg]; exact (below_size (y19_ GE369.out)) : w.heap.size ≤ gb375)); have n5_ := Aside0.mk ((by rw [hg]; exact Nat.ne_of_lt (blk_lt (g := gb369) (o := .cells #[.int .i64 a0_0, .int .i64 a0_1, .string a0_2, .string a0_3, .slice (some ad374) l0_4.length c0_4] 35 (0, 0)) (y12_ BK369.out)) : gb369 ≠ gb375)); have n6_ := Aside0.mk ((by rw [hg]; exact Nat.ne_of_gt (blk_lt (g := gb369) (o := .cells #[.int .i64 a0_0, .int .i64 a0_1, .string a0_2, .string a0_3, .slice (some ad374) l0_4.length c0_4] 35 (0, 0)) (y12_ BK369.out)) : gb375 ≠ gb369)); clear BK369; clear HB; have BK369 := n0_; have HB := n1_; have BK375 := n2_; have GW375 := n3_; have GE375 := n4_; have NB369_375 := n5_; have NB375_369 := n6_; clear n0_ n1_ n2_ n3_ n4_ n5_ n6_; clear hb hbox hg; have hnb43 := NB375_369.out; have hnc43 := NB369_375.out; have hcz44_0 : w42.cell? ⟨gb375, 0, none⟩ = some (.string (⟨#[]⟩ : ByteArray)) := (blk_cell BK375.out 0).trans rfl; have hcz44_1 : w42.cell? ⟨gb375, 1, none⟩ = some (.string (⟨#[]⟩ : ByteArray)) := (blk_cell BK375.out 1).trans rfl; have hfz44_0 := blk_frozen BK375.out 0; have hfz44_1 := blk_frozen BK375.out 1) | ((with_reducible refine gate_callee (f := 56) rfl ?_); refine goesL_ (some 38) rfl rfl Tryd.func56 (by kernel_rfl) rfl #[.string ((rd_T41 l0_4 x32_2).f0)] rfl y15_ ?_; (with_reducible refine (names_Attr.calls k2 ((rd_T41 l0_4 x32_2).f0) true _ A30.out).mono ?_); rintro e w' ⟨rfl, ⟨nd, rfl⟩⟩; refine ⟨_, rfl, ?_⟩) | (go_at_call 30; (with_reducible refine (write_clean.calls ((rd_T41 l0_4 x32_2).f0) true _ A32.out).mono ?_); rintro e w45 ⟨rfl, hb⟩; have n0_ := Aside0.mk (blk_below (g := gb369) (o := .cells #[.int .i64 a0_0, .int .i64 a0_1, .string a0_2, .string a0_3, .slice (some ad374) l0_4.length c0_4] 35 (0, 0)) (y27_ NB369_375.out BK369.out) hb); have n1_ := Aside0.mk (blk_below (g := gb375) (o := .cells #[.string ((rd_T41 l0_4 x32_2).f0), .string ((rd_T41 l0_4 x32_2).f1)] 41 (0, 0)) (y28_ BK375.out) hb); have n2_ := Aside0.mk (below_step (y21_ GE369.out GE375.out) hb); clear BK369; clear BK375; clear HB; have BK369 := n0_; have BK375 := n1_; have HB := n2_; clear n0_ n1_ n2_; (try clear hb); (try clear hb2); (try clear hk); (try clear hi); have hcz46_0 : w45.cell? ⟨gb375, 0, none⟩ = some (.string ((rd_T41 l0_4 x32_2).f0)) := (blk_cell BK375.out 0).trans rfl; have hcz46_1 : w45.cell? ⟨gb375, 1, none⟩ = some (.string ((rd_T41 l0_4 x32_2).f1)) := (blk_cell BK375.out 1).trans rfl; have hfz46_0 := blk_frozen BK375.out 0; have hfz46_1 := blk_frozen BK375.out 1) | (go_at_call 30; (with_reducible refine (write_clean.calls ((rd_T41 l0_4 x32_2).f1) false _ A34.out).mono ?_); rintro e w47 ⟨rfl, hb⟩; have n0_ := Aside0.mk (blk_below (g := gb369) (o := .cells #[.int .i64 a0_0, .int .i64 a0_1, .string a0_2, .string a0_3, .slice (some ad374) l0_4.length c0_4] 35 (0, 0)) (y12_ BK369.out) hb); have n1_ := Aside0.mk (blk_below (g := gb375) (o := .cells #[.string ((rd_T41 l0_4 x32_2).f0), .string ((rd_T41 l0_4 x32_2).f1)] 41 (0, 0)) (y12_ BK375.out) hb); have n2_ := Aside0.mk (below_step (y21_ GE369.out GE375.out) hb); clear BK369; clear BK375; clear HB; have BK369 := n0_; have BK375 := n1_; have HB := n2_; clear n0_ n1_ n2_; (try clear hb); (try clear hb2); (try clear hk); (try clear hi)))
          go_ret
          exact ⟨y13_, (y21_ GE369.out GE375.out)⟩
        ·replace c33 := Bool.eq_false_iff.mpr c33
         subst c33
         rw [if_neg (show ¬ (false = true) by decide)] at H
         obtain rfl := Option.some.inj H
         have p374 : 0 ≤ (x32_2 : Int) := of_decide_eq_true y2_
         have q374 : x32_2 < (l0_4.length : Int) := of_decide_eq_true y2_
         obtain ⟨ad374, e374, hx374_0, hx374_1⟩ := at_T41 HR0_4.out x32_2 p374 q374
         cases e374
         replace hx374_0 := (HB.out.cell (World.block_lt_of_cell? w _ hx374_0)).trans hx374_0
         replace hx374_1 := (HB.out.cell (World.block_lt_of_cell? w _ hx374_1)).trans hx374_1
         replace p374 := eq_true p374
         replace q374 := eq_true q374
         go_wp2_with (first | ((with_reducible refine gate_dst (N := 6) rfl ?_); refine box_event ?hg (N := 6) ?hd (cs := #[.string (⟨#[]⟩ : ByteArray), .string (⟨#[]⟩ : ByteArray)]) (t := 41) ?hr ?_; (case hd => rfl); (case hg => rfl); (case hr => first | (go_simp; done) | (go_simp; rfl)); intro gb375 hg w48 hbox hb; have n0_ := Aside0.mk (blk_below (g := gb369) (o := .cells #[.int .i64 a0_0, .int .i64 a0_1, .string a0_2, .string a0_3, .slice (some ad374) l0_4.length c0_4] 35 (0, 0)) (y12_ BK369.out) hb); have n1_ := Aside0.mk (below_step (y19_ GE369.out) hb); have n2_ := Aside0.mk (hbox); have n3_ := Aside0.mk ((by rw [hg]; exact (below_size (y19_ GE369.out)) : w.heap.size ≤ gb375)); have n4_ := Aside0.mk ((by rw [hg]; exact (below_size (y19_ GE369.out)) : w.heap.size ≤ gb375)); have n5_ := Aside0.mk ((by rw [hg]; exact Nat.ne_of_lt (blk_lt (g := gb369) (o := .cells #[.int .i64 a0_0, .int .i64 a0_1, .string a0_2, .string a0_3, .slice (some ad374) l0_4.length c0_4] 35 (0, 0)) (y12_ BK369.out)) : gb369 ≠ gb375)); have n6_ := Aside0.mk ((by rw [hg]; exact Nat.ne_of_gt (blk_lt (g := gb369) (o := .cells #[.int .i64 a0_0, .int .i64 a0_1, .string a0_2, .string a0_3, .slice (some ad374) l0_4.length c0_4] 35 (0, 0)) (y12_ BK369.out)) : gb375 ≠ gb369)); clear BK369; clear HB; have BK369 := n0_; have HB := n1_; have BK375 := n2_; have GW375 := n3_; have GE375 := n4_; have NB369_375 := n5_; have NB375_369 := n6_; clear n0_ n1_ n2_ n3_ n4_ n5_ n6_; clear hb hbox hg; have hnb49 := NB375_369.out; have hnc49 := NB369_375.out; have hcz50_0 : w48.cell? ⟨gb375, 0, none⟩ = some (.string (⟨#[]⟩ : ByteArray)) := (blk_cell BK375.out 0).trans rfl; have hcz50_1 : w48.cell? ⟨gb375, 1, none⟩ = some (.string (⟨#[]⟩ : ByteArray)) := (blk_cell BK375.out 1).trans rfl; have hfz50_0 := blk_frozen BK375.out 0; have hfz50_1 := blk_frozen BK375.out 1) | ((with_reducible refine gate_callee (f := 56) rfl ?_); refine goesL_ (some 38) rfl rfl Tryd.func56 (by kernel_rfl) rfl #[.string ((rd_T41 l0_4 x32_2).f0)] rfl y15_ ?_; (with_reducible refine (names_Attr.calls k2 ((rd_T41 l0_4 x32_2).f0) true _ A30.out).mono ?_); rintro e w' ⟨rfl, ⟨nd, rfl⟩⟩; refine ⟨_, rfl, ?_⟩) | (go_at_call 30; (with_reducible refine (write_clean.calls ((rd_T41 l0_4 x32_2).f0) false _ A32.out).mono ?_); rintro e w51 ⟨rfl, hb⟩; have n0_ := Aside0.mk (blk_below (g := gb369) (o := .cells #[.int .i64 a0_0, .int .i64 a0_1, .string a0_2, .string a0_3, .slice (some ad374) l0_4.length c0_4] 35 (0, 0)) (y27_ NB369_375.out BK369.out) hb); have n1_ := Aside0.mk (blk_below (g := gb375) (o := .cells #[.string ((rd_T41 l0_4 x32_2).f0), .string ((rd_T41 l0_4 x32_2).f1)] 41 (0, 0)) (y28_ BK375.out) hb); have n2_ := Aside0.mk (below_step (y21_ GE369.out GE375.out) hb); clear BK369; clear BK375; clear HB; have BK369 := n0_; have BK375 := n1_; have HB := n2_; clear n0_ n1_ n2_; (try clear hb); (try clear hb2); (try clear hk); (try clear hi)))
         go_ret
         exact ⟨y13_, (y21_ GE369.out GE375.out)⟩
       ·replace c31 := Bool.eq_false_iff.mpr c31
        subst c31
        rw [if_neg (show ¬ (false = true) by decide)] at H
        obtain rfl := Option.some.inj H
        have p374 : 0 ≤ (x32_2 : Int) := of_decide_eq_true y2_
        have q374 : x32_2 < (l0_4.length : Int) := of_decide_eq_true y2_
        obtain ⟨ad374, e374, hx374_0, hx374_1⟩ := at_T41 HR0_4.out x32_2 p374 q374
        cases e374
        replace hx374_0 := (HB.out.cell (World.block_lt_of_cell? w _ hx374_0)).trans hx374_0
        replace hx374_1 := (HB.out.cell (World.block_lt_of_cell? w _ hx374_1)).trans hx374_1
        replace p374 := eq_true p374
        replace q374 := eq_true q374
        go_wp2_with (first | ((with_reducible refine gate_dst (N := 6) rfl ?_); refine box_event ?hg (N := 6) ?hd (cs := #[.string (⟨#[]⟩ : ByteArray), .string (⟨#[]⟩ : ByteArray)]) (t := 41) ?hr ?_; (case hd => rfl); (case hg => rfl); (case hr => first | (go_simp; done) | (go_simp; rfl)); intro gb375 hg w52 hbox hb; have n0_ := Aside0.mk (blk_below (g := gb369) (o := .cells #[.int .i64 a0_0, .int .i64 a0_1, .string a0_2, .string a0_3, .slice (some ad374) l0_4.length c0_4] 35 (0, 0)) (y12_ BK369.out) hb); have n1_ := Aside0.mk (below_step (y19_ GE369.out) hb); have n2_ := Aside0.mk (hbox); have n3_ := Aside0.mk ((by rw [hg]; exact (below_size (y19_ GE369.out)) : w.heap.size ≤ gb375)); have n4_ := Aside0.mk ((by rw [hg]; exact (below_size (y19_ GE369.out)) : w.heap.size ≤ gb375)); have n5_ := Aside0.mk ((by rw [hg]; exact Nat.ne_of_lt (blk_lt (g := gb369) (o := .cells #[.int .i64 a0_0, .int .i64 a0_1, .string a0_2, .string a0_3, .slice (some ad374) l0_4.length c0_4] 35 (0, 0)) (y12_ BK369.out)) : gb369 ≠ gb375)); have n6_ := Aside0.mk ((by rw [hg]; exact Nat.ne_of_gt (blk_lt (g := gb369) (o := .cells #[.int .i64 a0_0, .int .i64 a0_1, .string a0_2, .string a0_3, .slice (some ad374) l0_4.length c0_4] 35 (0, 0)) (y12_ BK369.out)) : gb375 ≠ gb369)); clear BK369; clear HB; have BK369 := n0_; have HB := n1_; have BK375 := n2_; have GW375 := n3_; have GE375 := n4_; have NB369_375 := n5_; have NB375_369 := n6_; clear n0_ n1_ n2_ n3_ n4_ n5_ n6_; clear hb hbox hg; have hnb53 := NB375_369.out; have hnc53 := NB369_375.out; have hcz54_0 : w52.cell? ⟨gb375, 0, none⟩ = some (.string (⟨#[]⟩ : ByteArray)) := (blk_cell BK375.out 0).trans rfl; have hcz54_1 : w52.cell? ⟨gb375, 1, none⟩ = some (.string (⟨#[]⟩ : ByteArray)) := (blk_cell BK375.out 1).trans rfl; have hfz54_0 := blk_frozen BK375.out 0; have hfz54_1 := blk_frozen BK375.out 1) | ((with_reducible refine gate_callee (f := 56) rfl ?_); refine goesL_ (some 38) rfl rfl Tryd.func56 (by kernel_rfl) rfl #[.string ((rd_T41 l0_4 x32_2).f0)] rfl y15_ ?_; (with_reducible refine (names_Attr.calls k2 ((rd_T41 l0_4 x32_2).f0) false _ A30.out).mono ?_); rintro e w' ⟨rfl, ⟨nd, rfl⟩⟩; refine ⟨_, rfl, ?_⟩))
        go_ret
        exact ⟨y13_, (y21_ GE369.out GE375.out)⟩
      ·rw [if_neg c27] at H
       have c27b0 : decide (x32_2 < (l0_4.length : Int)) = false := decide_eq_false c27
       clear c27
       obtain rfl := Option.some.inj H
       go_wp2
       go_ret
       exact ⟨y13_, (y19_ GE369.out)⟩
end Go.Proofs.YtpnhjipaeggcpaaDoor.X
end
section
namespace Go.Proofs.YtpnhjipaeggcpaaDoor.X
open Go.RowKit Go.Proofs.YtpnhjipaeggcpaaDoorW.PrintWords Go.Proofs.YtpnhjipaeggcpaaDoorW.PrintLast Go.Proofs.YtpnhjipaeggcpaaDoorW.PrintMore
attribute [local go_sem] max2_int min2_int max_two min_two max_three min_three max_four min_four
def write_comment.f (a0 : ByteArray) : Option (Bool) := (write_clean.f a0).bind fun t273 => (if t273 = true then ((strings_Contains.f a0 (⟨#[45, 45, 62]⟩ : ByteArray)).bind fun t274 => (if t274 = true then (some false) else ((strings_Contains.f a0 (⟨#[45, 45, 33, 62]⟩ : ByteArray)).bind fun t275 => (if t275 = true then (some false) else ((strings_HasPrefix.f a0 (⟨#[62]⟩ : ByteArray)).bind fun t276 => (if t276 = true then (some false) else ((strings_HasPrefix.f a0 (⟨#[45, 62]⟩ : ByteArray)).bind fun t277 => (some (!t277))))))))) else (some false))
set_option maxHeartbeats 8000000 in
set_option maxRecDepth 100000 in
theorem write_comment.calls (a0 : ByteArray) (r : Bool) (w : World) (h : write_comment.f a0 = some r) (hT : WF w := by exact WF.below hT y22_) :
  Calls Tryd.prog 31 #[.string a0] w fun e w' => e = .returned (.bool r) ∧ Below w.heap.size w w' := by
 have HB := Aside0.mk (Below.refl w.heap.size w)
 have H : ((write_clean.f a0).bind fun t273 => (if t273 = true then ((strings_Contains.f a0 (⟨#[45, 45, 62]⟩ : ByteArray)).bind fun t274 => (if t274 = true then (some false) else ((strings_Contains.f a0 (⟨#[45, 45, 33, 62]⟩ : ByteArray)).bind fun t275 => (if t275 = true then (some false) else ((strings_HasPrefix.f a0 (⟨#[62]⟩ : ByteArray)).bind fun t276 => (if t276 = true then (some false) else ((strings_HasPrefix.f a0 (⟨#[45, 62]⟩ : ByteArray)).bind fun t277 => (some (!t277))))))))) else (some false))) = some r := h
 clear h
 replace H := Option.bind_eq_some_iff.mp H
 obtain ⟨t273, A20, H⟩ := H
 have A2 := Aside0.mk A20
 clear A20
 by_cases c3 : t273 = true
 ·subst c3
  rw [if_pos rfl] at H
  replace H := Option.bind_eq_some_iff.mp H
  obtain ⟨t274, A40, H⟩ := H
  have A4 := Aside0.mk A40
  clear A40
  by_cases c5 : t274 = true
  ·subst c5
   rw [if_pos rfl] at H
   obtain rfl := Option.some.inj H
   go_enter Tryd.func31, Tryd.ntmps31
   go_wp2_with (first | ((with_reducible refine gate_callee (f := 30) rfl ?_); refine goesL_ (some 4) rfl rfl Tryd.func30 (by kernel_rfl) rfl #[.string a0] rfl y15_ ?_; (with_reducible refine (write_clean.calls a0 true _ A2.out).mono ?_); rintro e w6 ⟨rfl, hb⟩; refine ⟨_, rfl, ?_⟩; have n0_ := Aside0.mk (below_step y14_ hb); clear HB; have HB := n0_; clear n0_; (try clear hb); (try clear hb2); (try clear hk); (try clear hi)) | (go_at_call 51; (with_reducible refine (strings_Contains.calls a0 (⟨#[45, 45, 62]⟩ : ByteArray) true _ A4.out).mono ?_); rintro e w7 ⟨rfl, hb⟩; have n0_ := Aside0.mk (below_step y14_ hb); clear HB; have HB := n0_; clear n0_; (try clear hb); (try clear hb2); (try clear hk); (try clear hi)))
   go_ret
   exact ⟨y13_, y14_⟩
  ·replace c5 := Bool.eq_false_iff.mpr c5
   subst c5
   rw [if_neg (show ¬ (false = true) by decide)] at H
   replace H := Option.bind_eq_some_iff.mp H
   obtain ⟨t275, A80, H⟩ := H
   have A8 := Aside0.mk A80
   clear A80
   by_cases c9 : t275 = true
   ·subst c9
    rw [if_pos rfl] at H
    obtain rfl := Option.some.inj H
    go_enter Tryd.func31, Tryd.ntmps31
    go_wp2_with (first | ((with_reducible refine gate_callee (f := 30) rfl ?_); refine goesL_ (some 4) rfl rfl Tryd.func30 (by kernel_rfl) rfl #[.string a0] rfl y15_ ?_; (with_reducible refine (write_clean.calls a0 true _ A2.out).mono ?_); rintro e w10 ⟨rfl, hb⟩; refine ⟨_, rfl, ?_⟩; have n0_ := Aside0.mk (below_step y14_ hb); clear HB; have HB := n0_; clear n0_; (try clear hb); (try clear hb2); (try clear hk); (try clear hi)) | (go_at_call 51; (with_reducible refine (strings_Contains.calls a0 (⟨#[45, 45, 62]⟩ : ByteArray) false _ A4.out).mono ?_); rintro e w11 ⟨rfl, hb⟩; have n0_ := Aside0.mk (below_step y14_ hb); clear HB; have HB := n0_; clear n0_; (try clear hb); (try clear hb2); (try clear hk); (try clear hi)) | (go_at_call 51; (with_reducible refine (strings_Contains.calls a0 (⟨#[45, 45, 33, 62]⟩ : ByteArray) true _ A8.out).mono ?_); rintro e w12 ⟨rfl, hb⟩; have n0_ := Aside0.mk (below_step y14_ hb); clear HB; have HB := n0_; clear n0_; (try clear hb); (try clear hb2); (try clear hk); (try clear hi)))
    go_ret
    exact ⟨y13_, y14_⟩
   ·replace c9 := Bool.eq_false_iff.mpr c9
    subst c9
    rw [if_neg (show ¬ (false = true) by decide)] at H
    replace H := Option.bind_eq_some_iff.mp H
    obtain ⟨t276, A130, H⟩ := H
    have A13 := Aside0.mk A130
    clear A130
    by_cases c14 : t276 = true
    ·subst c14
     rw [if_pos rfl] at H
     obtain rfl := Option.some.inj H
     go_enter Tryd.func31, Tryd.ntmps31
     go_wp2_with (first | ((with_reducible refine gate_callee (f := 30) rfl ?_); refine goesL_ (some 4) rfl rfl Tryd.func30 (by kernel_rfl) rfl #[.string a0] rfl y15_ ?_; (with_reducible refine (write_clean.calls a0 true _ A2.out).mono ?_); rintro e w15 ⟨rfl, hb⟩; refine ⟨_, rfl, ?_⟩; have n0_ := Aside0.mk (below_step y14_ hb); clear HB; have HB := n0_; clear n0_; (try clear hb); (try clear hb2); (try clear hk); (try clear hi)) | (go_at_call 51; (with_reducible refine (strings_Contains.calls a0 (⟨#[45, 45, 62]⟩ : ByteArray) false _ A4.out).mono ?_); rintro e w16 ⟨rfl, hb⟩; have n0_ := Aside0.mk (below_step y14_ hb); clear HB; have HB := n0_; clear n0_; (try clear hb); (try clear hb2); (try clear hk); (try clear hi)) | (go_at_call 51; (with_reducible refine (strings_Contains.calls a0 (⟨#[45, 45, 33, 62]⟩ : ByteArray) false _ A8.out).mono ?_); rintro e w17 ⟨rfl, hb⟩; have n0_ := Aside0.mk (below_step y14_ hb); clear HB; have HB := n0_; clear n0_; (try clear hb); (try clear hb2); (try clear hk); (try clear hi)) | (go_at_call 52; (with_reducible refine (strings_HasPrefix.calls a0 (⟨#[62]⟩ : ByteArray) true _ A13.out).mono ?_); rintro e w' ⟨rfl, ⟨nd, rfl⟩⟩))
     go_ret
     exact ⟨y13_, y14_⟩
    ·replace c14 := Bool.eq_false_iff.mpr c14
     subst c14
     rw [if_neg (show ¬ (false = true) by decide)] at H
     replace H := Option.bind_eq_some_iff.mp H
     obtain ⟨t277, A180, H⟩ := H
     have A18 := Aside0.mk A180
     clear A180
     obtain rfl := Option.some.inj H
     go_enter Tryd.func31, Tryd.ntmps31
     go_wp2_with (first | ((with_reducible refine gate_callee (f := 30) rfl ?_); refine goesL_ (some 4) rfl rfl Tryd.func30 (by kernel_rfl) rfl #[.string a0] rfl y15_ ?_; (with_reducible refine (write_clean.calls a0 true _ A2.out).mono ?_); rintro e w19 ⟨rfl, hb⟩; refine ⟨_, rfl, ?_⟩; have n0_ := Aside0.mk (below_step y14_ hb); clear HB; have HB := n0_; clear n0_; (try clear hb); (try clear hb2); (try clear hk); (try clear hi)) | (go_at_call 51; (with_reducible refine (strings_Contains.calls a0 (⟨#[45, 45, 62]⟩ : ByteArray) false _ A4.out).mono ?_); rintro e w20 ⟨rfl, hb⟩; have n0_ := Aside0.mk (below_step y14_ hb); clear HB; have HB := n0_; clear n0_; (try clear hb); (try clear hb2); (try clear hk); (try clear hi)) | (go_at_call 51; (with_reducible refine (strings_Contains.calls a0 (⟨#[45, 45, 33, 62]⟩ : ByteArray) false _ A8.out).mono ?_); rintro e w21 ⟨rfl, hb⟩; have n0_ := Aside0.mk (below_step y14_ hb); clear HB; have HB := n0_; clear n0_; (try clear hb); (try clear hb2); (try clear hk); (try clear hi)) | (go_at_call 52; (with_reducible refine (strings_HasPrefix.calls a0 (⟨#[62]⟩ : ByteArray) false _ A13.out).mono ?_); rintro e w' ⟨rfl, ⟨nd, rfl⟩⟩) | (go_at_call 52; (with_reducible refine (strings_HasPrefix.calls a0 (⟨#[45, 62]⟩ : ByteArray) t277 _ A18.out).mono ?_); rintro e w' ⟨rfl, ⟨nd, rfl⟩⟩))
     go_ret
     exact ⟨y13_, y14_⟩
 ·replace c3 := Bool.eq_false_iff.mpr c3
  subst c3
  rw [if_neg (show ¬ (false = true) by decide)] at H
  obtain rfl := Option.some.inj H
  go_enter Tryd.func31, Tryd.ntmps31
  go_wp2_with (first | ((with_reducible refine gate_callee (f := 30) rfl ?_); refine goesL_ (some 4) rfl rfl Tryd.func30 (by kernel_rfl) rfl #[.string a0] rfl y15_ ?_; (with_reducible refine (write_clean.calls a0 false _ A2.out).mono ?_); rintro e w22 ⟨rfl, hb⟩; refine ⟨_, rfl, ?_⟩; have n0_ := Aside0.mk (below_step y14_ hb); clear HB; have HB := n0_; clear n0_; (try clear hb); (try clear hb2); (try clear hk); (try clear hi)))
  go_ret
  exact ⟨y13_, y14_⟩
end Go.Proofs.YtpnhjipaeggcpaaDoor.X
end
section
namespace Go.Proofs.YtpnhjipaeggcpaaDoor.X
open Go.RowKit Go.Proofs.YtpnhjipaeggcpaaDoorW.PrintWords Go.Proofs.YtpnhjipaeggcpaaDoorW.PrintLast Go.Proofs.YtpnhjipaeggcpaaDoorW.PrintMore
def spB (n : Int) : Bool := n == 32 || (n == 9 || (n == 10 || (n == 12 || n == 13)))
theorem space_is (n : Int) : fold_Space.f n = some (spB n) := by
  unfold fold_Space.f spB
  by_cases h1 : n = 32
  · rw [if_pos h1]; simp [h1]
  by_cases h2 : n = 9
  · rw [if_neg h1, if_pos h2]; simp [h2]
  by_cases h3 : n = 10
  · rw [if_neg h1, if_neg h2, if_pos h3]; simp [h3]
  by_cases h4 : n = 12
  · rw [if_neg h1, if_neg h2, if_neg h3, if_pos h4]; simp [h4]
  rw [if_neg h1, if_neg h2, if_neg h3, if_neg h4, beq_eq_false_iff_ne.2 h1, beq_eq_false_iff_ne.2 h2, beq_eq_false_iff_ne.2 h3, beq_eq_false_iff_ne.2 h4]
  rfl
def letB (n : Int) : Bool := (decide (97 ≤ n) && decide (n ≤ 122)) || (decide (65 ≤ n) && decide (n ≤ 90))
theorem letter_is (n : Int) : fold_Letter.f n = some (letB n) := by
  unfold fold_Letter.f letB
  by_cases h1 : n ≥ 97
  · rw [if_pos h1]
    by_cases h2 : n ≤ 122
    · rw [if_pos h2]; simp [h2]; omega
    · rw [if_neg h2, if_pos (by omega)]; simp [h2, decide_eq_false (show ¬ n ≤ 90 by omega)]
  · rw [if_neg h1]
    by_cases h3 : n ≥ 65
    · rw [if_pos h3, decide_eq_false (show ¬ 97 ≤ n by omega), decide_eq_true (show 65 ≤ n from h3)]; rfl
    · rw [if_neg h3, decide_eq_false (show ¬ 97 ≤ n by omega), decide_eq_false (show ¬ 65 ≤ n by omega)]; rfl
def butFrom (s but : ByteArray) (j i : Nat) : Bool := (List.range' i (but.size - i)).all fun q => !(bt s (j : Int) == bt but (q : Int))
def plainAt (s but : ByteArray) (j : Nat) : Bool := !spB (bt s (j : Int)) && (!(decide (65 ≤ bt s (j : Int)) && decide (bt s (j : Int) ≤ 90)) && (!(bt s (j : Int) == 0) && butFrom s but j 0))
def plainFrom (s but : ByteArray) (j : Nat) : Bool := (List.range' j (s.size - j)).all (plainAt s but)
def plainB (s but : ByteArray) : Bool := plainFrom s but 0 && (s.toList != [])
theorem plain_l1 (s but : ByteArray) (hs : s.size ≤ 4611686018427387904) (hb : but.size ≤ 4611686018427387904) (r : Bool) (j : Nat) (hj : j < s.size) (hnext : Ev (fun k => names_plain.l0 k s but (s.size : Int) ((j + 1 : Nat) : Int)) r) : ∀ (d i : Nat), i + d = but.size →
    Ev (fun k => names_plain.l1 k s but (j : Int) (s.size : Int) (j : Int) (but.size : Int) (i : Int)) (butFrom s but j i && r)
  | 0, i, hi => by
    have : butFrom s but j i = true := by simp [butFrom, show but.size - i = 0 by omega]
    rw [this, Bool.true_and]
    refine evI (fun k => ?_) hnext
    rw [names_plain.l1, if_neg (by omega), w64n (by omega)]
  | d + 1, i, hi => by
    have hlt : i < but.size := by omega
    have ih := plain_l1 s but hs hb r j hj hnext d (i + 1) (by omega)
    have hd : butFrom s but j i = (!(bt s (j : Int) == bt but (i : Int)) && butFrom s but j (i + 1)) := by
      unfold butFrom
      rw [range'_cons hlt, List.all_cons]
    by_cases he : bt s (j : Int) = bt but (i : Int)
    · rw [hd, beq_iff_eq.2 he]
      refine evK (fun k => ?_)
      rw [names_plain.l1, if_pos (by omega), if_pos (by omega), if_pos (by omega), if_pos (by omega), if_pos (by omega), if_pos he]
      rfl
    · rw [hd, beq_eq_false_iff_ne.2 he, Bool.not_false, Bool.true_and]
      refine evI (fun k => ?_) ih
      rw [names_plain.l1, if_pos (by omega), if_pos (by omega), if_pos (by omega), if_pos (by omega), if_pos (by omega), if_neg he, w64n (by omega)]
theorem plain_l0 (s but : ByteArray) (hs : s.size ≤ 4611686018427387904) (hb : but.size ≤ 4611686018427387904) : ∀ (d j : Nat), j + d = s.size → Ev (fun k => names_plain.l0 k s but (s.size : Int) (j : Int)) (plainFrom s but j && (s.toList != []))
  | 0, j, hj => by
    have : plainFrom s but j = true := by simp [plainFrom, show s.size - j = 0 by omega]
    rw [this, Bool.true_and]
    refine evK (fun k => ?_)
    rw [names_plain.l0, if_neg (by omega)]
  | d + 1, j, hj => by
    have hlt : j < s.size := by omega
    have ih := plain_l0 s but hs hb d (j + 1) (by omega)
    have hd : plainFrom s but j = (plainAt s but j && plainFrom s but (j + 1)) := by
      unfold plainFrom
      rw [range'_cons hlt, List.all_cons]
    have h1 := plain_l1 s but hs hb _ j hlt ih but.size 0 (by omega)
    have hj1 : ∀ b : Bool, Ev (fun k => names_plain.j1 k s but (j : Int) (s.size : Int) (j : Int) b) (!b && (butFrom s but j 0 && (plainFrom s but (j + 1) && (s.toList != [])))) := fun b => by
      cases b with
      | true => exact evK (fun k => by rw [names_plain.j1, if_pos rfl]; rfl)
      | false =>
        rw [Bool.not_false, Bool.true_and]
        exact evI (fun k => by rw [names_plain.j1, if_neg (by decide)]; rfl) h1
    have hgo : ∀ b : Bool, (∀ k, names_plain.l0 (k + 1) s but (s.size : Int) (j : Int) = names_plain.j1 k s but (j : Int) (s.size : Int) (j : Int) b) → (!b && butFrom s but j 0) = plainAt s but j → Ev (fun k => names_plain.l0 k s but (s.size : Int) (j : Int)) (plainFrom s but j && (s.toList != [])) := fun b hk he => by
      rw [hd, ← he, Bool.and_assoc, Bool.and_assoc]
      exact evI hk (hj1 b)
    have hstep : ∀ k, names_plain.l0 (k + 1) s but (s.size : Int) (j : Int) = if spB (bt s (j : Int)) = true then names_plain.j1 k s but (j : Int) (s.size : Int) (j : Int) true else if bt s (j : Int) ≥ 65 then (if bt s (j : Int) ≤ 90 then names_plain.j1 k s but (j : Int) (s.size : Int) (j : Int) true else names_plain.j1 k s but (j : Int) (s.size : Int) (j : Int) (bt s (j : Int) == 0)) else names_plain.j1 k s but (j : Int) (s.size : Int) (j : Int) (bt s (j : Int) == 0) := fun k => by
      rw [names_plain.l0, if_pos (by omega), if_pos (by omega), if_pos (by omega), space_is, Option.bind_some]
    unfold plainAt at hgo
    by_cases c1 : spB (bt s (j : Int)) = true
    · exact hgo true (fun k => by rw [hstep, if_pos c1]) (by rw [c1]; rfl)
    · rw [Bool.not_eq_true] at c1
      by_cases c2 : bt s (j : Int) ≥ 65
      · by_cases c3 : bt s (j : Int) ≤ 90
        · exact hgo true (fun k => by rw [hstep, c1, if_neg (by decide), if_pos c2, if_pos c3]) (by rw [c1, decide_eq_true (show 65 ≤ bt s (j : Int) from c2), decide_eq_true c3]; rfl)
        · exact hgo _ (fun k => by rw [hstep, c1, if_neg (by decide), if_pos c2, if_neg c3]) (by rw [c1, decide_eq_false c3]; simp)
      · exact hgo _ (fun k => by rw [hstep, c1, if_neg (by decide), if_neg c2]) (by rw [c1, decide_eq_false (show ¬ 65 ≤ bt s (j : Int) from c2)]; simp)
theorem plain_is (s but : ByteArray) (hs : s.size ≤ 4611686018427387904) (hb : but.size ≤ 4611686018427387904) : Ev (fun k => names_plain.f k s but) (plainB s but) := plain_l0 s but hs hb s.size 0 (by omega)
def rightNameB (s : ByteArray) : Bool := plainB s ⟨#[47, 62]⟩ && letB (bt s 0)
theorem rightName_is (s : ByteArray) (hs : s.size ≤ 4611686018427387904) : Ev (fun k => names_Right.f k s) (rightNameB s) := by
  refine Ev.bind (plain_is s ⟨#[47, 62]⟩ hs (by decide)) ?_
  unfold rightNameB
  by_cases h : plainB s ⟨#[47, 62]⟩ = true
  · have hpos : 0 < s.size := by
      unfold plainB at h
      rw [Bool.and_eq_true] at h
      apply Nat.pos_of_ne_zero
      intro h0
      have h2 := h.2
      have : s = ⟨#[]⟩ := by
        apply ByteArray.ext
        apply Array.ext'
        exact List.length_eq_zero_iff.1 (by rw [← size_eq]; exact h0)
      rw [this] at h2
      have h3 : ((⟨#[]⟩ : ByteArray).toList != []) = false := by kernel_rfl
      rw [h3] at h2
      cases h2
    refine Ev.congr (fun k => ?_) (Ev.now _)
    rw [if_pos h, if_pos (by omega), letter_is, h]; rfl
  · rw [Bool.not_eq_true] at h
    exact Ev.congr (fun k => by rw [h, if_neg (by decide)]; rfl) (Ev.now _)
def attrNameB (s : ByteArray) : Bool := plainB s ⟨#[47, 62, 34, 39, 60, 61]⟩
theorem attrName_is (s : ByteArray) (hs : s.size ≤ 4611686018427387904) : Ev (fun k => names_Attr.f k s) (attrNameB s) :=
  Ev.bind (plain_is s ⟨#[47, 62, 34, 39, 60, 61]⟩ hs (by decide)) (Ev.now _)
def goneL : List ByteArray := [⟨#[98, 111, 100, 121]⟩, ⟨#[102, 114, 97, 109, 101, 115, 101, 116]⟩, ⟨#[104, 101, 97, 100]⟩, ⟨#[104, 116, 109, 108]⟩]
theorem gone_is (a : ByteArray) {k : Nat} (hk : 4 < k) : names_Gone.f k a = some (inB goneL a) := by
  show (names_among.f k a goneL).bind some = _
  rw [among_is goneL a (by decide) hk]; rfl
theorem among_some (a : ByteArray) (l : List ByteArray) (hl : l.length < 64) : ∃ b, names_among.f 64 a l = some b := ⟨_, among_is l a (by omega) hl⟩
theorem table_some (a : ByteArray) : ∃ b, names_table.f 64 a = some b := by
  unfold names_table.f
  rw [among_is _ a (by decide) (by decide)]
  exact ⟨_, rfl⟩
theorem table_some3 (a : ByteArray) : ∃ b, names_table.f 63 a = some b := by
  unfold names_table.f
  rw [among_is _ a (by decide) (by decide)]
  exact ⟨_, rfl⟩
theorem block_some3 (a : ByteArray) : ∃ b, names_Block.f 63 a = some b := by
  unfold names_Block.f
  rw [among_is _ a (by decide) (by decide)]
  exact ⟨_, rfl⟩
theorem ite_some {α : Type} {c : Prop} [Decidable c] {x y : Option α} (h1 : ∃ r, x = some r) (h2 : ∃ r, y = some r) : ∃ r, (if c then x else y) = some r := by split <;> assumption
theorem bind_some' {α β : Type} {x : Option α} {f : α → Option β} (h1 : ∃ r, x = some r) (h2 : ∀ a, ∃ r, f a = some r) : ∃ r, x.bind f = some r := by
  obtain ⟨a, rfl⟩ := h1
  exact h2 a
theorem closes_some (a : ByteArray) : ∃ r, names_Closes.f 64 a = some r := by
  have hj : ∀ b : Bool, ∃ r, names_Closes.j0 64 a a b = some r := fun b => by
    unfold names_Closes.j0
    repeat' (first | exact ⟨_, rfl⟩ | exact table_some3 a | exact block_some3 a | refine ite_some ?_ ?_ | refine bind_some' ?_ (fun _ => ?_))
  unfold names_Closes.f
  exact ite_some (hj _) (hj _)
theorem walls_some (a : ByteArray) : ∃ r, names_Walls.f 64 a = some r := by
  unfold names_Walls.f
  repeat' (first | exact ⟨_, rfl⟩ | exact table_some a | exact among_some a _ (by decide) | refine ite_some ?_ ?_ | refine bind_some' ?_ (fun _ => ?_))
def closesOf (a : ByteArray) : List ByteArray := (names_Closes.f 64 a).getD []
def wallsOf (a : ByteArray) : List ByteArray := (names_Walls.f 64 a).getD []
theorem closes_is (a : ByteArray) : Ev (fun k => names_Closes.f k a) (closesOf a) := by
  obtain ⟨r, h⟩ := closes_some a
  have : closesOf a = r := by unfold closesOf; rw [h]; rfl
  rw [this]
  exact Ev.of (names_Closes.mono a) h
theorem walls_is (a : ByteArray) : Ev (fun k => names_Walls.f k a) (wallsOf a) := by
  obtain ⟨r, h⟩ := walls_some a
  have : wallsOf a = r := by unfold wallsOf; rw [h]; rfl
  rw [this]
  exact Ev.of (names_Walls.mono a) h
def paraB (a : ByteArray) : Bool := a.toList == [108, 105] || (a.toList == [100, 100] || a.toList == [100, 116])
theorem para_is (a : ByteArray) : build_paragraph.f a = some (paraB a) := by
  unfold build_paragraph.f paraB
  by_cases h1 : a.toList = [108, 105]
  · rw [if_pos h1]; simp [h1]
  by_cases h2 : a.toList = [100, 100]
  · rw [if_neg h1, if_pos h2]; simp [h2]
  rw [if_neg h1, if_neg h2, beq_eq_false_iff_ne.2 h1, beq_eq_false_iff_ne.2 h2]; rfl
def foundI (op so wa : List ByteArray) : Int := foundGo so wa op.reverse
def nestedB (a : ByteArray) (l : List ByteArray) : Bool := !(paraB a && decide (0 ≤ foundI l [⟨#[112]⟩] (wallsOf ⟨#[112]⟩))) && decide (foundI l (closesOf a) (wallsOf a) < 0)
theorem nested_is (a : ByteArray) (l : List ByteArray) : Ev (fun k => build_Nested.f k a l) (nestedB a l) := by
  have hlast : Ev (fun k => (names_Closes.f k a).bind fun t354 => (names_Walls.f k a).bind fun t357 => (build_found.f l t354 t357).bind fun t360 => some (decide (t360 < 0))) (decide (foundI l (closesOf a) (wallsOf a) < 0)) :=
    Ev.bind (closes_is a) (Ev.bind (walls_is a) (Ev.now _))
  unfold nestedB
  by_cases h : paraB a = true
  · refine Ev.congr (f := fun k => (names_Walls.f k ⟨#[112]⟩).bind fun t350 => (build_found.f l [⟨#[112]⟩] t350).bind fun t353 => if t353 ≥ 0 then some false else (names_Closes.f k a).bind fun t354 => (names_Walls.f k a).bind fun t357 => (build_found.f l t354 t357).bind fun t360 => some (decide (t360 < 0))) (fun k => by unfold build_Nested.f; rw [para_is, Option.bind_some, if_pos h]) (Ev.bind (walls_is ⟨#[112]⟩) ?_)
    rw [show build_found.f l [⟨#[112]⟩] (wallsOf ⟨#[112]⟩) = some (foundI l [⟨#[112]⟩] (wallsOf ⟨#[112]⟩)) from rfl]
    by_cases h2 : foundI l [⟨#[112]⟩] (wallsOf ⟨#[112]⟩) ≥ 0
    · refine Ev.congr (fun k => ?_) (Ev.now _)
      rw [Option.bind_some, if_pos h2, h, decide_eq_true (show 0 ≤ foundI l [⟨#[112]⟩] (wallsOf ⟨#[112]⟩) from h2)]; rfl
    · rw [h, decide_eq_false (show ¬ 0 ≤ foundI l [⟨#[112]⟩] (wallsOf ⟨#[112]⟩) from h2)]
      exact Ev.congr (fun k => by rw [Option.bind_some, if_neg h2]) hlast
  · rw [Bool.not_eq_true] at h
    rw [h]
    exact Ev.congr (fun k => by unfold build_Nested.f; rw [para_is, Option.bind_some, h, if_neg (by decide)]) hlast
def cleanB (s : ByteArray) : Bool := Lib.validD s.data.toList && !(s.data.toList.any isNulCr)
theorem clean_is (s : ByteArray) (hs : s.size < 4294967281) : write_clean.f s = some (cleanB s) := by
  unfold write_clean.f chars_Right.f utf8_ValidString.f strings_ContainsAny.f cleanB
  rw [if_pos (by omega), if_pos ⟨hs, rfl⟩]
  simp only [Option.bind_some]
  by_cases h : Lib.validD s.data.toList = true
  · rw [if_pos h, h]; rfl
  · rw [if_neg h, Bool.not_eq_true _ |>.mp h]; rfl
theorem contains_some (s t : ByteArray) (hs : s.size < 4294967281) : strings_Contains.f s t = some (Lib.contains s.data.toList t.data.toList) := by
  unfold strings_Contains.f
  rw [if_pos hs]
def prefB (s t : ByteArray) : Bool := decide (t.size ≤ s.size) && (s.extract 0 t.size).toList == t.toList
theorem pref_is (s t : ByteArray) : strings_HasPrefix.f s t = some (prefB s t) := by
  unfold strings_HasPrefix.f stringslite_HasPrefix.f prefB
  by_cases h : (s.size : Int) ≥ (t.size : Int)
  · rw [if_pos h, if_pos (by omega), if_pos h, decide_eq_true (show t.size ≤ s.size by omega)]; rfl
  · rw [if_neg h, decide_eq_false (show ¬ t.size ≤ s.size by omega)]; rfl
def commentB (s : ByteArray) : Bool := cleanB s && (!Lib.contains s.data.toList [45, 45, 62] && (!Lib.contains s.data.toList [45, 45, 33, 62] && (!prefB s ⟨#[62]⟩ && !prefB s ⟨#[45, 62]⟩)))
theorem comment_is (s : ByteArray) (hs : s.size < 4294967281) : write_comment.f s = some (commentB s) := by
  unfold write_comment.f commentB
  rw [clean_is s hs, contains_some s _ hs, contains_some s _ hs, pref_is, pref_is]
  simp only [Option.bind_some]
  show (if cleanB s = true then (if Lib.contains s.data.toList [45, 45, 62] = true then _ else if Lib.contains s.data.toList [45, 45, 33, 62] = true then _ else _) else _) = _
  cases cleanB s <;> cases Lib.contains s.data.toList [45, 45, 62] <;> cases Lib.contains s.data.toList [45, 45, 33, 62] <;> cases prefB s ⟨#[62]⟩ <;> cases prefB s ⟨#[45, 62]⟩ <;> rfl
def attrOk (a : AttT) : Bool := attrNameB a.f0 && (cleanB a.f0 && cleanB a.f1)
theorem element_loop (l : List AttT) (hl : l.length ≤ 4611686018427387904) (hs : ∀ a ∈ l, AttrSmall a) : ∀ (d j : Nat), j + d = l.length → Ev (fun k => write_element.l0 k l (l.length : Int) (j : Int)) ((l.drop j).all attrOk)
  | 0, j, hj => by
    refine evK (fun k => ?_)
    rw [write_element.l0, if_neg (by omega), List.drop_eq_nil_of_le (by omega)]; rfl
  | d + 1, j, hj => by
    have hlt : j < l.length := by omega
    have ih := element_loop l hl hs d (j + 1) (by omega)
    obtain ⟨h1, h2⟩ := hs l[j] (List.getElem_mem hlt)
    rw [List.drop_eq_getElem_cons hlt, List.all_cons]
    refine evI (f := fun k => (names_Attr.f k l[j].f0).bind fun t376 => (if t376 = true then (if cleanB l[j].f0 = true then (if cleanB l[j].f1 = true then write_element.l0 k l (l.length : Int) ((j + 1 : Nat) : Int) else some false) else some false) else some false)) (fun k => ?_) (Ev.bind (attrName_is l[j].f0 (by omega)) ?_)
    · rw [write_element.l0, if_pos (by omega), if_pos (by omega), if_pos (by omega), rdA_at hlt, clean_is _ (by omega), clean_is _ (by omega), w64n (by omega)]
      simp only [Option.bind_some]
    · unfold attrOk
      cases c1 : attrNameB l[j].f0 with
      | false => exact Ev.now _
      | true =>
        cases c2 : cleanB l[j].f0 with
        | false => exact Ev.now _
        | true =>
          cases c3 : cleanB l[j].f1 with
          | false => exact Ev.now _
          | true =>
            simp only [if_true, Bool.true_and]
            exact ih
def elementB (n : ByteArray) (ats : List AttT) (l : List ByteArray) : Bool := rightNameB n && (!inB goneL n && (cleanB n && (nestedB n l && ats.all attrOk)))
theorem element_is (d kd : Int) (n t : ByteArray) (ats : List AttT) (l : List ByteArray) (hn : n.size ≤ 1048576) (hl : ats.length ≤ 4611686018427387904) (hs : ∀ a ∈ ats, AttrSmall a) : Ev (fun k => write_element.f k d kd n t ats l) (elementB n ats l) := by
  have hj : ∀ b : Bool, Ev (fun k => write_element.j0 k b d kd n t ats) (!b && ats.all attrOk) := fun b => by
    cases b with
    | true => exact evK (fun k => by rw [write_element.j0, if_pos rfl]; rfl)
    | false =>
      rw [Bool.not_false, Bool.true_and]
      exact evI (fun k => by rw [write_element.j0, if_neg (by decide)]; rfl) (element_loop ats hl hs ats.length 0 (by omega))
  refine Ev.bind (rightName_is n (by omega)) ?_
  unfold elementB
  cases c1 : rightNameB n with
  | false => exact Ev.congr (fun k => by rw [if_neg (by decide)]) (hj true)
  | true =>
    refine Ev.congr (fun k => by rw [if_pos rfl]) (Ev.bind (evAt 4 (fun k hk => gone_is n hk)) ?_)
    cases c2 : inB goneL n with
    | true => exact Ev.congr (fun k => by rw [if_pos rfl]) (hj true)
    | false =>
      refine Ev.congr (fun k => by rw [if_neg (by decide), clean_is n (by omega), Option.bind_some]) ?_
      cases c3 : cleanB n with
      | false => exact Ev.congr (fun k => by rw [if_neg (by decide)]) (hj true)
      | true =>
        refine Ev.congr (fun k => by rw [if_pos rfl]) (Ev.bind (nested_is n l) ?_)
        have := hj (!nestedB n l)
        rw [Bool.not_not] at this
        exact this
end Go.Proofs.YtpnhjipaeggcpaaDoor.X
end
section
namespace Go.Proofs.YtpnhjipaeggcpaaDoor.X
open Go.RowKit Go.Proofs.YtpnhjipaeggcpaaDoorW.PrintWords Go.Proofs.YtpnhjipaeggcpaaDoorW.PrintLast Go.Proofs.YtpnhjipaeggcpaaDoorW.PrintMore
attribute [local go_sem] max2_int min2_int max_two min_two max_three min_three max_four min_four
mutual
def write_within.j0 : Nat → List (S35) → List Int → Bool → Int → Int → ByteArray → ByteArray → List (S41) → Option (Bool)
 | 0, _, _, _, _, _, _, _, _ => none
 | k + 1, x0, x6, x22, x393000, x393001, x393002, x393003, x393004 => if x22 = true then (some true) else (if (x6.length : Int) > 1 then (write_within.j1 k x0 x6 true x393000 x393001 x393002 x393003 x393004) else (if 0 < (x6.length : Int) then (if 0 ≤ (rd x6 0) then (if (rd x6 0) < (x0.length : Int) then (write_within.j1 k x0 x6 (((rd_T35 x0 (rd x6 0)).f1) != 1) x393000 x393001 x393002 x393003 x393004) else (none)) else (none)) else (none)))
def write_within.j1 : Nat → List (S35) → List Int → Bool → Int → Int → ByteArray → ByteArray → List (S41) → Option (Bool)
 | 0, _, _, _, _, _, _, _, _ => none
 | k + 1, x0, x6, x38, x393000, x393001, x393002, x393003, x393004 => if x38 = true then (some false) else (if 0 < (x6.length : Int) then (if 0 ≤ (rd x6 0) then (if (rd x6 0) < (x0.length : Int) then ((names_Soft.f k x393002).bind fun t400 => (if t400 = true then (some true) else ((strings_Contains.f ((rd_T35 x0 (rd x6 0)).f3) (⟨#[60, 47]⟩ : ByteArray)).bind fun t401 => (if t401 = true then (some false) else ((strings_HasSuffix.f ((rd_T35 x0 (rd x6 0)).f3) (⟨#[60]⟩ : ByteArray)).bind fun t402 => (some (!t402))))))) else (none)) else (none)) else (none))
end
def write_within.f (k : Nat) (l0 : List (S35)) (a1 : Int) : Option (Bool) := if 0 ≤ a1 then (if a1 < (l0.length : Int) then ((rows_Kids.f l0 a1).bind fun t389 => ((names_Void.f k ((rd_T35 l0 a1).f2)).bind fun t393 => (if t393 = true then (some ((t389.length : Int) == 0)) else ((names_Raw.f k ((rd_T35 l0 a1).f2)).bind fun t394 => (if t394 = true then (write_within.j0 k l0 t389 ((t389.length : Int) == 0) ((rd_T35 l0 a1).f0) ((rd_T35 l0 a1).f1) ((rd_T35 l0 a1).f2) ((rd_T35 l0 a1).f3) ((rd_T35 l0 a1).f4)) else ((names_Soft.f k ((rd_T35 l0 a1).f2)).bind fun t395 => (if t395 = true then (write_within.j0 k l0 t389 ((t389.length : Int) == 0) ((rd_T35 l0 a1).f0) ((rd_T35 l0 a1).f1) ((rd_T35 l0 a1).f2) ((rd_T35 l0 a1).f3) ((rd_T35 l0 a1).f4)) else (write_within.j0 k l0 t389 true ((rd_T35 l0 a1).f0) ((rd_T35 l0 a1).f1) ((rd_T35 l0 a1).f2) ((rd_T35 l0 a1).f3) ((rd_T35 l0 a1).f4))))))))) else (none)) else (none)
def write_within.T1 : Bool × List (List Nat × List Nat) := (true, [([], []), ([], []), ([0, 1], [0, 1]), ([2], [2]), ([], []), ([], []), ([4, 5], [4, 5]), ([], []), ([7, 3, 6, 0, 1, 2, 3, 7], [3, 7]), ([6, 8, 0, 1, 2, 3, 4, 5, 6, 7, 8], [6])])
def write_within.B1 : List Nat := [0, 0, 3, 7, 0, 0, 48, 0, 255, 511]
theorem write_within.tab1 : rtab .any (opsOf Tryd.f33 1) = write_within.T1 := by kernel_rfl
theorem write_within.bits1 : waitsOk write_within.T1.2 write_within.B1 = true := by kernel_rfl
set_option maxHeartbeats 8000000 in
set_option maxRecDepth 100000 in
theorem write_within.calls (k : Nat) (A0 : Option Addr) (c0 : Nat) (l0 : List (S35)) (a1 : Int) (r : Bool) (w : World) (hr0 : Kd.C k35 w A0 l0.length l0) (hc0 : l0.length ≤ c0) (h : write_within.f k l0 a1 = some r) (hT : WF w := by exact WF.below hT y22_) :
  Calls Tryd.prog 33 #[.slice A0 l0.length c0, .int .i64 a1] w fun e w' => e = .returned (.bool r) ∧ Below w.heap.size w w' := by
 have hu35 := Tryd.underlying35
 have HR0 := Aside0.mk hr0
 have HC0 := Aside0.mk hc0
 clear hr0 hc0
 have HB := Aside0.mk (Below.refl w.heap.size w)
 have H : (if 0 ≤ a1 then (if a1 < (l0.length : Int) then ((rows_Kids.f l0 a1).bind fun t389 => ((names_Void.f k ((rd_T35 l0 a1).f2)).bind fun t393 => (if t393 = true then (some ((t389.length : Int) == 0)) else ((names_Raw.f k ((rd_T35 l0 a1).f2)).bind fun t394 => (if t394 = true then (write_within.j0 k l0 t389 ((t389.length : Int) == 0) ((rd_T35 l0 a1).f0) ((rd_T35 l0 a1).f1) ((rd_T35 l0 a1).f2) ((rd_T35 l0 a1).f3) ((rd_T35 l0 a1).f4)) else ((names_Soft.f k ((rd_T35 l0 a1).f2)).bind fun t395 => (if t395 = true then (write_within.j0 k l0 t389 ((t389.length : Int) == 0) ((rd_T35 l0 a1).f0) ((rd_T35 l0 a1).f1) ((rd_T35 l0 a1).f2) ((rd_T35 l0 a1).f3) ((rd_T35 l0 a1).f4)) else (write_within.j0 k l0 t389 true ((rd_T35 l0 a1).f0) ((rd_T35 l0 a1).f1) ((rd_T35 l0 a1).f2) ((rd_T35 l0 a1).f3) ((rd_T35 l0 a1).f4))))))))) else (none)) else (none)) = some r := h
 clear h
 by_cases c3 : 0 ≤ a1
 rotate_left
 ·rw [if_neg c3] at H
  exact absurd H (by simp)
 rw [if_pos c3] at H
 have c3b0 : decide (0 ≤ a1) = true := decide_eq_true c3
 clear c3
 by_cases c4 : a1 < (l0.length : Int)
 rotate_left
 ·rw [if_neg c4] at H
  exact absurd H (by simp)
 rw [if_pos c4] at H
 have c4b0 : decide (a1 < (l0.length : Int)) = true := decide_eq_true c4
 clear c4
 replace H := Option.bind_eq_some_iff.mp H
 obtain ⟨t389, A50, H⟩ := H
 have A5 := Aside0.mk A50
 clear A50
 replace H := Option.bind_eq_some_iff.mp H
 obtain ⟨t393, A60, H⟩ := H
 have A6 := Aside0.mk A60
 clear A60
 by_cases c7 : t393 = true
 ·subst c7
  rw [if_pos rfl] at H
  obtain rfl := Option.some.inj H
  go_enter Tryd.func33, Tryd.ntmps33
  try go_wp2
  have n0_ := Aside0.mk (below_drew1 HB.out)
  clear HB
  have HB := n0_
  clear n0_
  have p388 : 0 ≤ (a1 : Int) := of_decide_eq_true y2_
  have q388 : a1 < (l0.length : Int) := of_decide_eq_true y2_
  obtain ⟨ad388, A388_4, c388_4, e388, hx388_0, hx388_1, hx388_2, hx388_3, hx388_4, hl388_4, hi388_4⟩ := at_T35 HR0.out a1 p388 q388
  have hw388_4 := hx388_4
  have hw388_3 := hx388_3
  have hw388_2 := hx388_2
  have hw388_1 := hx388_1
  have hw388_0 := hx388_0
  cases e388
  replace hx388_0 := (HB.out.cell (World.block_lt_of_cell? w _ hx388_0)).trans hx388_0
  replace hx388_1 := (HB.out.cell (World.block_lt_of_cell? w _ hx388_1)).trans hx388_1
  replace hx388_2 := (HB.out.cell (World.block_lt_of_cell? w _ hx388_2)).trans hx388_2
  replace hx388_3 := (HB.out.cell (World.block_lt_of_cell? w _ hx388_3)).trans hx388_3
  replace hx388_4 := (HB.out.cell (World.block_lt_of_cell? w _ hx388_4)).trans hx388_4
  have HR388_4 := Aside0.mk hi388_4
  have HC388_4 := Aside0.mk hl388_4
  clear hi388_4 hl388_4
  replace p388 := eq_true p388
  replace q388 := eq_true q388
  refine start_ (n := 10) (S := fun w' => w'.cell? (ad388.add ((a1).toNat * 5)) = some (.int .i64 ((rd_T35 l0 a1).f0)) ∧ w'.cell? ⟨(ad388.add ((a1).toNat * 5)).block, (ad388.add ((a1).toNat * 5)).off + 1, none⟩ = some (.int .i64 ((rd_T35 l0 a1).f1)) ∧ w'.cell? ⟨(ad388.add ((a1).toNat * 5)).block, (ad388.add ((a1).toNat * 5)).off + 2, none⟩ = some (.string ((rd_T35 l0 a1).f2)) ∧ w'.cell? ⟨(ad388.add ((a1).toNat * 5)).block, (ad388.add ((a1).toNat * 5)).off + 3, none⟩ = some (.string ((rd_T35 l0 a1).f3)) ∧ w'.cell? ⟨(ad388.add ((a1).toNat * 5)).block, (ad388.add ((a1).toNat * 5)).off + 4, none⟩ = some (.slice A388_4 ((rd_T35 l0 a1).f4).length c388_4)) (ds := []) #[false, false, false, false, false, false, false, false, false, false] (by kernel_rfl) rfl rfl ⟨((HB.out.cell (World.block_lt_of_cell? w _ hw388_0)).trans hw388_0), ((HB.out.cell (World.block_lt_of_cell? w _ hw388_1)).trans hw388_1), ((HB.out.cell (World.block_lt_of_cell? w _ hw388_2)).trans hw388_2), ((HB.out.cell (World.block_lt_of_cell? w _ hw388_3)).trans hw388_3), ((HB.out.cell (World.block_lt_of_cell? w _ hw388_4)).trans hw388_4)⟩ (fun hHeld => ?_); refine with_tabW write_within.tab1 write_within.bits1 (fun HT_ HW_ => ?_)
  generalize w.drew = w8 at HB HR388_4 hx388_0 hx388_1 hx388_2 hx388_3 hx388_4 hHeld ⊢
  refine pure_ (i := 0) (N := some 8) (v := ?_) (a' := ?_) #[true, false, false, false, false, false, false, false, false, false] rfl rfl (any_of HT_.out (by kernel_rfl)) (fun _ _ _ h => h) (Or.inl ⟨by rfl, ?_⟩) ?_ ?_
  rotate_left
  ·intro w'
   go_simp
   with_reducible rfl
  rotate_left
  ·simp only [Act.put, List.setIfInBounds_toArray, List.set_cons_zero, List.set_cons_succ, i64_w, i32_w]
   rfl
  refine pure_ (i := 1) (N := some 9) (v := ?_) (a' := ?_) #[true, true, false, false, false, false, false, false, false, false] rfl rfl (any_of HT_.out (by kernel_rfl)) (fun _ _ _ h => h) (Or.inl ⟨by rfl, ?_⟩) ?_ ?_
  rotate_left
  ·intro w'
   go_simp
   with_reducible rfl
  rotate_left
  ·simp only [Act.put, List.setIfInBounds_toArray, List.set_cons_zero, List.set_cons_succ, i64_w, i32_w]
   rfl
  refine pure_ (i := 2) (N := some 10) (v := ?_) (a' := ?_) #[true, true, true, false, false, false, false, false, false, false] rfl rfl (any_of HT_.out (by kernel_rfl)) (fun _ _ _ h => h) (Or.inl ⟨by rfl, ?_⟩) ?_ ?_
  rotate_left
  ·intro w'
   go_simp
   with_reducible rfl
  rotate_left
  ·simp only [Act.put, List.setIfInBounds_toArray, List.set_cons_zero, List.set_cons_succ, i64_w, i32_w]
   rfl
  refine pure_ (i := 4) (N := some 12) (v := ?_) (a' := ?_) #[true, true, true, false, true, false, false, false, false, false] rfl rfl (any_of HT_.out (by kernel_rfl)) (fun _ _ _ h => h) (Or.inl ⟨by rfl, ?_⟩) ?_ ?_
  rotate_left
  ·intro w'
   go_simp
   with_reducible rfl
  rotate_left
  ·simp only [Act.put, List.setIfInBounds_toArray, List.set_cons_zero, List.set_cons_succ, i64_w, i32_w]
   rfl
  refine pure_ (i := 5) (N := some 13) (v := ?_) (a' := ?_) #[true, true, true, false, true, true, false, false, false, false] rfl rfl (any_of HT_.out (by kernel_rfl)) (fun _ _ _ h => h) (Or.inl ⟨by rfl, ?_⟩) ?_ ?_
  rotate_left
  ·intro w'
   go_simp
   with_reducible rfl
  rotate_left
  ·simp only [Act.put, List.setIfInBounds_toArray, List.set_cons_zero, List.set_cons_succ, i64_w, i32_w]
   rfl
  refine take_ (i := 3) (N := some 11) (v := ?_) (a' := ?_) #[true, true, true, true, true, true, false, false, false, false] rfl rfl (take_ofW HT_.out HW_.out (by kernel_rfl)) (fun _ _ _ h => h) (Or.inl ⟨by rfl, ?_⟩) hHeld ?_ ?_
  rotate_left
  ·rintro w' ⟨s0, s1, s2, s3, s4⟩
   go_simp
   with_reducible rfl
  rotate_left
  ·simp only [Act.put, List.setIfInBounds_toArray, List.set_cons_zero, List.set_cons_succ, i64_w, i32_w]
   rfl
  refine join_ (σ := Value × Nat) 2 #[true, true, true, true, true, true, true, true, false, false] (fun s_ => [(14, s_.1), (5, .pointer (some ⟨s_.2, 0, none⟩))]) (fun s_ w' => (w'.cell? (ad388.add ((a1).toNat * 5)) = some (.int .i64 ((rd_T35 l0 a1).f0)) ∧ w'.cell? ⟨(ad388.add ((a1).toNat * 5)).block, (ad388.add ((a1).toNat * 5)).off + 1, none⟩ = some (.int .i64 ((rd_T35 l0 a1).f1)) ∧ w'.cell? ⟨(ad388.add ((a1).toNat * 5)).block, (ad388.add ((a1).toNat * 5)).off + 2, none⟩ = some (.string ((rd_T35 l0 a1).f2)) ∧ w'.cell? ⟨(ad388.add ((a1).toNat * 5)).block, (ad388.add ((a1).toNat * 5)).off + 3, none⟩ = some (.string ((rd_T35 l0 a1).f3)) ∧ w'.cell? ⟨(ad388.add ((a1).toNat * 5)).block, (ad388.add ((a1).toNat * 5)).off + 4, none⟩ = some (.slice A388_4 ((rd_T35 l0 a1).f4).length c388_4)) ∧ (Kd.R (Kd.int .i64) 3 w' w.heap.size (fun _ => True) s_.1 t389) ∧ (w'.heap[s_.2]? = some (.cells #[.int .i64 0, .int .i64 0, .string (⟨#[]⟩ : ByteArray), .string (⟨#[]⟩ : ByteArray), .slice none 0 0] 35 (0, 0))) ∧ (w.heap.size ≤ s_.2) ∧ (w.heap.size ≤ s_.2) ∧ (Below w.heap.size w w')) ?_ ?_
  rotate_left
  ·intro hCont
   refine two_ (i := 6) (j := 7) (Ni := some 14) (Nj := some 5) #[true, true, true, true, true, true, true, false, false, false] #[true, true, true, true, true, true, false, true, false, false] rfl rfl rfl rfl (two_of HT_.out (by kernel_rfl)) (by decide) (by decide) (fun K hK => ?_) (fun K hK => ?_)
   ·skip
    refine goes_ Tryd.func35 (by kernel_rfl) rfl #[.slice (some ad388) l0.length c0, .int .i64 a1] (by rfl) rfl rfl y15_ ?_
    with_reducible refine (rows_Kids.calls _ _ l0 a1 t389 _ ?side1 ?side2 A5.out).mono ?_
    (case side1 => repeat (first | exact (Kd.C_below HR0.out HB.out) | (with_reducible refine Kd.C_alloc ?_ _) | (with_reducible refine Kd.C_drewN ?_ _) | (with_reducible refine Kd.C_drew ?_)))
    (case side2 => exact HC0.out)
    rintro e w9 ⟨v390, rfl, ho0, hb⟩
    refine ⟨_, rfl, ?_⟩
    have n0_ := Aside0.mk (Kd.R_lower ho0 (below_size y14_))
    have n1_ := Aside0.mk (below_step y14_ hb)
    clear HB
    have HO391 := n0_
    have HB := n1_
    clear n0_ n1_
    (try clear hb)
    (try clear hb2)
    (try clear hk)
    (try clear hi)
    (try clear ho0)
    refine hK.out _ _ ⟨((HB.out.cell (World.block_lt_of_cell? w _ hw388_0)).trans hw388_0), ((HB.out.cell (World.block_lt_of_cell? w _ hw388_1)).trans hw388_1), ((HB.out.cell (World.block_lt_of_cell? w _ hw388_2)).trans hw388_2), ((HB.out.cell (World.block_lt_of_cell? w _ hw388_3)).trans hw388_3), ((HB.out.cell (World.block_lt_of_cell? w _ hw388_4)).trans hw388_4)⟩ (fun hHeld => ?_)
    clear hK K
    refine norm_ (a' := ?_) ?_ ?_
    rotate_left
    ·show Act.put _ (some 14) _ = _
     simp only [Act.put, List.setIfInBounds_toArray, List.set_cons_zero, List.set_cons_succ, i64_w, i32_w]
     rfl
    refine one_ (i := 7) (N := some 5) #[true, true, true, true, true, true, true, true, false, false] rfl rfl (one_of HT_.out (by kernel_rfl)) (by decide) (fun K hK => ?_)
    refine box_step ?hg (N := 5) ?hd (cs := #[.int .i64 0, .int .i64 0, .string (⟨#[]⟩ : ByteArray), .string (⟨#[]⟩ : ByteArray), .slice none 0 0]) (t := 35) ?hr ?_; (case hd => rfl); (case hg => rfl); (case hr => first | (go_simp; done) | (go_simp; rfl))
    intro gb392 hg w10 hbox hb
    have n0_ := Aside0.mk (Kd.R_below (y8_ HO391.out) hb)
    have n1_ := Aside0.mk (below_step y14_ hb)
    have n2_ := Aside0.mk (hbox)
    have n3_ := Aside0.mk ((by rw [hg]; exact (below_size y14_) : w.heap.size ≤ gb392))
    have n4_ := Aside0.mk ((by rw [hg]; exact (below_size y14_) : w.heap.size ≤ gb392))
    clear HO391
    clear HB
    have HO391 := n0_
    have HB := n1_
    have BK392 := n2_
    have GW392 := n3_
    have GE392 := n4_
    clear n0_ n1_ n2_ n3_ n4_
    clear hb hbox hg
    refine hK.out _ _ ⟨((HB.out.cell (World.block_lt_of_cell? w _ hw388_0)).trans hw388_0), ((HB.out.cell (World.block_lt_of_cell? w _ hw388_1)).trans hw388_1), ((HB.out.cell (World.block_lt_of_cell? w _ hw388_2)).trans hw388_2), ((HB.out.cell (World.block_lt_of_cell? w _ hw388_3)).trans hw388_3), ((HB.out.cell (World.block_lt_of_cell? w _ hw388_4)).trans hw388_4)⟩ (fun hHeld => ?_)
    clear hK K
    refine norm_ (a' := ?_) ?_ ?_
    rotate_left
    ·show Act.put _ (some 5) _ = _
     simp only [Act.put, List.setIfInBounds_toArray, List.set_cons_zero, List.set_cons_succ, i64_w, i32_w]
     rfl
    exact norm_ y7_ (hCont (v390, gb392) _ ⟨hHeld, (y8_ HO391.out), (y12_ BK392.out), GW392.out, GE392.out, (y19_ GE392.out)⟩)
   ·skip
    refine box_step ?hg (N := 5) ?hd (cs := #[.int .i64 0, .int .i64 0, .string (⟨#[]⟩ : ByteArray), .string (⟨#[]⟩ : ByteArray), .slice none 0 0]) (t := 35) ?hr ?_; (case hd => rfl); (case hg => rfl); (case hr => first | (go_simp; done) | (go_simp; rfl))
    intro gb392 hg w9 hbox hb
    have n0_ := Aside0.mk (below_step y14_ hb)
    have n1_ := Aside0.mk (hbox)
    have n2_ := Aside0.mk ((by rw [hg]; exact (below_size y14_) : w.heap.size ≤ gb392))
    have n3_ := Aside0.mk ((by rw [hg]; exact (below_size y14_) : w.heap.size ≤ gb392))
    clear HB
    have HB := n0_
    have BK392 := n1_
    have GW392 := n2_
    have GE392 := n3_
    clear n0_ n1_ n2_ n3_
    clear hb hbox hg
    refine hK.out _ _ ⟨((HB.out.cell (World.block_lt_of_cell? w _ hw388_0)).trans hw388_0), ((HB.out.cell (World.block_lt_of_cell? w _ hw388_1)).trans hw388_1), ((HB.out.cell (World.block_lt_of_cell? w _ hw388_2)).trans hw388_2), ((HB.out.cell (World.block_lt_of_cell? w _ hw388_3)).trans hw388_3), ((HB.out.cell (World.block_lt_of_cell? w _ hw388_4)).trans hw388_4)⟩ (fun hHeld => ?_)
    clear hK K
    refine norm_ (a' := ?_) ?_ ?_
    rotate_left
    ·show Act.put _ (some 5) _ = _
     simp only [Act.put, List.setIfInBounds_toArray, List.set_cons_zero, List.set_cons_succ, i64_w, i32_w]
     rfl
    refine one_ (i := 6) (N := some 14) #[true, true, true, true, true, true, true, true, false, false] rfl rfl (one_of HT_.out (by kernel_rfl)) (by decide) (fun K hK => ?_)
    refine goes_ Tryd.func35 (by kernel_rfl) rfl #[.slice (some ad388) l0.length c0, .int .i64 a1] (by rfl) rfl rfl y15_ ?_
    with_reducible refine (rows_Kids.calls _ _ l0 a1 t389 _ ?side1 ?side2 A5.out).mono ?_
    (case side1 => repeat (first | exact (Kd.C_below HR0.out HB.out) | (with_reducible refine Kd.C_alloc ?_ _) | (with_reducible refine Kd.C_drewN ?_ _) | (with_reducible refine Kd.C_drew ?_)))
    (case side2 => exact HC0.out)
    rintro e w10 ⟨v390, rfl, ho0, hb⟩
    refine ⟨_, rfl, ?_⟩
    have n0_ := Aside0.mk (Kd.R_lower ho0 (below_size (y19_ GE392.out)))
    have n1_ := Aside0.mk (blk_below (g := gb392) (o := .cells #[.int .i64 0, .int .i64 0, .string (⟨#[]⟩ : ByteArray), .string (⟨#[]⟩ : ByteArray), .slice none 0 0] 35 (0, 0)) (y12_ BK392.out) hb)
    have n2_ := Aside0.mk (below_step (y19_ GE392.out) hb)
    clear BK392
    clear HB
    have HO391 := n0_
    have BK392 := n1_
    have HB := n2_
    clear n0_ n1_ n2_
    (try clear hb)
    (try clear hb2)
    (try clear hk)
    (try clear hi)
    (try clear ho0)
    refine hK.out _ _ ⟨((HB.out.cell (World.block_lt_of_cell? w _ hw388_0)).trans hw388_0), ((HB.out.cell (World.block_lt_of_cell? w _ hw388_1)).trans hw388_1), ((HB.out.cell (World.block_lt_of_cell? w _ hw388_2)).trans hw388_2), ((HB.out.cell (World.block_lt_of_cell? w _ hw388_3)).trans hw388_3), ((HB.out.cell (World.block_lt_of_cell? w _ hw388_4)).trans hw388_4)⟩ (fun hHeld => ?_)
    clear hK K
    refine norm_ (a' := ?_) ?_ ?_
    rotate_left
    ·show Act.put _ (some 14) _ = _
     simp only [Act.put, List.setIfInBounds_toArray, List.set_cons_zero, List.set_cons_succ, i64_w, i32_w]
     rfl
    exact norm_ y7_ (hCont (v390, gb392) _ ⟨hHeld, (y8_ HO391.out), (y12_ BK392.out), GW392.out, GE392.out, (y19_ GE392.out)⟩)
  rintro ⟨v390, gb392⟩ w11 ⟨hS_, h0_, h1_, h2_, h3_, h4_⟩
  have n0_ : Aside0 (Kd.R (Kd.int .i64) 3 w11 w.heap.size (fun _ => True) v390 t389) := ⟨h0_⟩
  have n1_ : Aside0 (w11.heap[gb392]? = some (.cells #[.int .i64 0, .int .i64 0, .string (⟨#[]⟩ : ByteArray), .string (⟨#[]⟩ : ByteArray), .slice none 0 0] 35 (0, 0))) := ⟨h1_⟩
  have n2_ : Aside0 (w.heap.size ≤ gb392) := ⟨h2_⟩
  have n3_ : Aside0 (w.heap.size ≤ gb392) := ⟨h3_⟩
  have n4_ : Aside0 (Below w.heap.size w w11) := ⟨h4_⟩
  clear HB
  clear h0_ h1_ h2_ h3_ h4_
  have HO391 := n0_
  have BK392 := n1_
  have GW392 := n2_
  have GE392 := n3_
  have HB := n4_
  clear n0_ n1_ n2_ n3_ n4_
  have hHeld : w11.cell? (ad388.add ((a1).toNat * 5)) = some (.int .i64 ((rd_T35 l0 a1).f0)) ∧ w11.cell? ⟨(ad388.add ((a1).toNat * 5)).block, (ad388.add ((a1).toNat * 5)).off + 1, none⟩ = some (.int .i64 ((rd_T35 l0 a1).f1)) ∧ w11.cell? ⟨(ad388.add ((a1).toNat * 5)).block, (ad388.add ((a1).toNat * 5)).off + 2, none⟩ = some (.string ((rd_T35 l0 a1).f2)) ∧ w11.cell? ⟨(ad388.add ((a1).toNat * 5)).block, (ad388.add ((a1).toNat * 5)).off + 3, none⟩ = some (.string ((rd_T35 l0 a1).f3)) ∧ w11.cell? ⟨(ad388.add ((a1).toNat * 5)).block, (ad388.add ((a1).toNat * 5)).off + 4, none⟩ = some (.slice A388_4 ((rd_T35 l0 a1).f4).length c388_4) := hS_
  refine norm_ (a' := ?_) ?_ ?_
  rotate_left
  ·simp only [putAll, Act.put, List.setIfInBounds_toArray, List.set_cons_zero, List.set_cons_succ]
   rfl
  refine one_ (i := 8) (N := none) #[true, true, true, true, true, true, true, true, true, false] rfl rfl (one_of HT_.out (by kernel_rfl)) (by decide) (fun K hK => ?_)
  have hs12 : w11.cell? ⟨gb392, 0, none⟩ = some (.int .i64 0) := (blk_cell BK392.out 0).trans rfl
  have hfs12 := blk_frozen BK392.out 0
  have hs13 : w11.cell? ⟨gb392, 1, none⟩ = some (.int .i64 0) := (blk_cell BK392.out 1).trans rfl
  have hfs13 := blk_frozen BK392.out 1
  have hs14 : w11.cell? ⟨gb392, 2, none⟩ = some (.string (⟨#[]⟩ : ByteArray)) := (blk_cell BK392.out 2).trans rfl
  have hfs14 := blk_frozen BK392.out 2
  have hs15 : w11.cell? ⟨gb392, 3, none⟩ = some (.string (⟨#[]⟩ : ByteArray)) := (blk_cell BK392.out 3).trans rfl
  have hfs15 := blk_frozen BK392.out 3
  have hs16 : w11.cell? ⟨gb392, 4, none⟩ = some (.slice none 0 0) := (blk_cell BK392.out 4).trans rfl
  have hfs16 := blk_frozen BK392.out 4
  refine skip_ (w1 := ?_) (by rfl) rfl ?_ ?_
  rotate_left
  ·go_simp
   rfl
  refine hK.out _ _ ⟨((cell_far (p := ⟨gb392, _, none⟩) (y35_ hw388_0 GW392.out) _).trans (((cell_far (p := ⟨gb392, _, none⟩) (y35_ hw388_0 GW392.out) _).trans (((cell_far (p := ⟨gb392, _, none⟩) (y35_ hw388_0 GW392.out) _).trans (((cell_far (p := ⟨gb392, _, none⟩) (y35_ hw388_0 GW392.out) _).trans (((cell_far (p := ⟨gb392, _, none⟩) (y35_ hw388_0 GW392.out) _).trans (hHeld.1)))))))))), ((cell_far (p := ⟨gb392, _, none⟩) (y35_ hw388_1 GW392.out) _).trans (((cell_far (p := ⟨gb392, _, none⟩) (y35_ hw388_1 GW392.out) _).trans (((cell_far (p := ⟨gb392, _, none⟩) (y35_ hw388_1 GW392.out) _).trans (((cell_far (p := ⟨gb392, _, none⟩) (y35_ hw388_1 GW392.out) _).trans (((cell_far (p := ⟨gb392, _, none⟩) (y35_ hw388_1 GW392.out) _).trans (hHeld.2.1)))))))))), ((cell_far (p := ⟨gb392, _, none⟩) (y35_ hw388_2 GW392.out) _).trans (((cell_far (p := ⟨gb392, _, none⟩) (y35_ hw388_2 GW392.out) _).trans (((cell_far (p := ⟨gb392, _, none⟩) (y35_ hw388_2 GW392.out) _).trans (((cell_far (p := ⟨gb392, _, none⟩) (y35_ hw388_2 GW392.out) _).trans (((cell_far (p := ⟨gb392, _, none⟩) (y35_ hw388_2 GW392.out) _).trans (hHeld.2.2.1)))))))))), ((cell_far (p := ⟨gb392, _, none⟩) (y35_ hw388_3 GW392.out) _).trans (((cell_far (p := ⟨gb392, _, none⟩) (y35_ hw388_3 GW392.out) _).trans (((cell_far (p := ⟨gb392, _, none⟩) (y35_ hw388_3 GW392.out) _).trans (((cell_far (p := ⟨gb392, _, none⟩) (y35_ hw388_3 GW392.out) _).trans (((cell_far (p := ⟨gb392, _, none⟩) (y35_ hw388_3 GW392.out) _).trans (hHeld.2.2.2.1)))))))))), ((cell_far (p := ⟨gb392, _, none⟩) (y35_ hw388_4 GW392.out) _).trans (((cell_far (p := ⟨gb392, _, none⟩) (y35_ hw388_4 GW392.out) _).trans (((cell_far (p := ⟨gb392, _, none⟩) (y35_ hw388_4 GW392.out) _).trans (((cell_far (p := ⟨gb392, _, none⟩) (y35_ hw388_4 GW392.out) _).trans (((cell_far (p := ⟨gb392, _, none⟩) (y35_ hw388_4 GW392.out) _).trans (hHeld.2.2.2.2))))))))))⟩ (fun hHeld => ?_)
  clear hK K
  refine pure_ (i := 9) (N := some 6) (v := ?_) (a' := ?_) #[true, true, true, true, true, true, true, true, true, true] rfl rfl (any_of HT_.out (by kernel_rfl)) (fun _ _ _ h => h) (Or.inl ⟨by rfl, ?_⟩) ?_ ?_
  rotate_left
  ·intro w'
   go_simp
   with_reducible rfl
  rotate_left
  ·simp only [Act.put, List.setIfInBounds_toArray, List.set_cons_zero, List.set_cons_succ, i64_w, i32_w]
   rfl
  refine done_ (done_of HT_.out (by kernel_rfl)) ?_
  have hcz17_0 : w11.cell? ⟨gb392, 0, none⟩ = some (.int .i64 0) := (blk_cell BK392.out 0).trans rfl
  have hcz17_1 : w11.cell? ⟨gb392, 1, none⟩ = some (.int .i64 0) := (blk_cell BK392.out 1).trans rfl
  have hcz17_2 : w11.cell? ⟨gb392, 2, none⟩ = some (.string (⟨#[]⟩ : ByteArray)) := (blk_cell BK392.out 2).trans rfl
  have hcz17_3 : w11.cell? ⟨gb392, 3, none⟩ = some (.string (⟨#[]⟩ : ByteArray)) := (blk_cell BK392.out 3).trans rfl
  have hcz17_4 : w11.cell? ⟨gb392, 4, none⟩ = some (.slice none 0 0) := (blk_cell BK392.out 4).trans rfl
  have hfz17_0 := blk_frozen BK392.out 0
  have hfz17_1 := blk_frozen BK392.out 1
  have hfz17_2 := blk_frozen BK392.out 2
  have hfz17_3 := blk_frozen BK392.out 3
  have hfz17_4 := blk_frozen BK392.out 4
  try go_wp2_with (first | ((with_reducible refine gate_callee (f := 26) rfl ?_); refine goesL_ (some 18) rfl rfl Tryd.func26 (by kernel_rfl) rfl #[.string ((rd_T35 l0 a1).f2)] rfl y15_ ?_; (with_reducible refine (names_Void.calls k ((rd_T35 l0 a1).f2) true _ A6.out).mono ?_); rintro e w18 ⟨rfl, hb⟩; refine ⟨_, rfl, ?_⟩; have n0_ := Aside0.mk (Kd.R_below (by (with_reducible repeat (first | apply Kd.R_alloc | apply Kd.R_drewN | apply Kd.R_drew)); exact (Kd.R_mono (Kd.R_far (p := ⟨gb392, 4, none⟩) (Kd.R_far (p := ⟨gb392, 3, none⟩) (Kd.R_far (p := ⟨gb392, 2, none⟩) (Kd.R_far (p := ⟨gb392, 1, none⟩) (Kd.R_far (p := ⟨gb392, 0, none⟩) (Kd.R_types HO391.out BK392.out (by decide)) (fun _ hk => hk.2) (.int .i64 ((rd_T35 l0 a1).f0))) (fun _ hk => hk.2) (.int .i64 ((rd_T35 l0 a1).f1))) (fun _ hk => hk.2) (.string ((rd_T35 l0 a1).f2))) (fun _ hk => hk.2) (.string ((rd_T35 l0 a1).f3))) (fun _ hk => hk.2) (.slice A388_4 ((rd_T35 l0 a1).f4).length c388_4)) (fun _ h_ => h_.1))) hb); have n1_ := Aside0.mk (blk_below (g := gb392) (o := .cells #[.int .i64 ((rd_T35 l0 a1).f0), .int .i64 ((rd_T35 l0 a1).f1), .string ((rd_T35 l0 a1).f2), .string ((rd_T35 l0 a1).f3), .slice A388_4 ((rd_T35 l0 a1).f4).length c388_4] 35 (0, 0)) (y32_ BK392.out) hb); have n2_ := Aside0.mk (below_step (y19_ GE392.out) hb); clear HO391; clear BK392; clear HB; have HO391 := n0_; have BK392 := n1_; have HB := n2_; clear n0_ n1_ n2_; (try clear hb); (try clear hb2); (try clear hk); (try clear hi); obtain ⟨Ao19, co19, eo19⟩ := Kd.R_slice HO391.out; subst eo19))
  go_ret
  exact ⟨y13_, (y19_ GE392.out)⟩
 ·replace c7 := Bool.eq_false_iff.mpr c7
  subst c7
  rw [if_neg (show ¬ (false = true) by decide)] at H
  have HC20 := Aside0.mk H
  clear H
  go_enter Tryd.func33, Tryd.ntmps33
  try go_wp2
  have n0_ := Aside0.mk (below_drew1 HB.out)
  clear HB
  have HB := n0_
  clear n0_
  have p388 : 0 ≤ (a1 : Int) := of_decide_eq_true y2_
  have q388 : a1 < (l0.length : Int) := of_decide_eq_true y2_
  obtain ⟨ad388, A388_4, c388_4, e388, hx388_0, hx388_1, hx388_2, hx388_3, hx388_4, hl388_4, hi388_4⟩ := at_T35 HR0.out a1 p388 q388
  have hw388_4 := hx388_4
  have hw388_3 := hx388_3
  have hw388_2 := hx388_2
  have hw388_1 := hx388_1
  have hw388_0 := hx388_0
  cases e388
  replace hx388_0 := (HB.out.cell (World.block_lt_of_cell? w _ hx388_0)).trans hx388_0
  replace hx388_1 := (HB.out.cell (World.block_lt_of_cell? w _ hx388_1)).trans hx388_1
  replace hx388_2 := (HB.out.cell (World.block_lt_of_cell? w _ hx388_2)).trans hx388_2
  replace hx388_3 := (HB.out.cell (World.block_lt_of_cell? w _ hx388_3)).trans hx388_3
  replace hx388_4 := (HB.out.cell (World.block_lt_of_cell? w _ hx388_4)).trans hx388_4
  have HR388_4 := Aside0.mk hi388_4
  have HC388_4 := Aside0.mk hl388_4
  clear hi388_4 hl388_4
  replace p388 := eq_true p388
  replace q388 := eq_true q388
  refine start_ (n := 10) (S := fun w' => w'.cell? (ad388.add ((a1).toNat * 5)) = some (.int .i64 ((rd_T35 l0 a1).f0)) ∧ w'.cell? ⟨(ad388.add ((a1).toNat * 5)).block, (ad388.add ((a1).toNat * 5)).off + 1, none⟩ = some (.int .i64 ((rd_T35 l0 a1).f1)) ∧ w'.cell? ⟨(ad388.add ((a1).toNat * 5)).block, (ad388.add ((a1).toNat * 5)).off + 2, none⟩ = some (.string ((rd_T35 l0 a1).f2)) ∧ w'.cell? ⟨(ad388.add ((a1).toNat * 5)).block, (ad388.add ((a1).toNat * 5)).off + 3, none⟩ = some (.string ((rd_T35 l0 a1).f3)) ∧ w'.cell? ⟨(ad388.add ((a1).toNat * 5)).block, (ad388.add ((a1).toNat * 5)).off + 4, none⟩ = some (.slice A388_4 ((rd_T35 l0 a1).f4).length c388_4)) (ds := []) #[false, false, false, false, false, false, false, false, false, false] (by kernel_rfl) rfl rfl ⟨((HB.out.cell (World.block_lt_of_cell? w _ hw388_0)).trans hw388_0), ((HB.out.cell (World.block_lt_of_cell? w _ hw388_1)).trans hw388_1), ((HB.out.cell (World.block_lt_of_cell? w _ hw388_2)).trans hw388_2), ((HB.out.cell (World.block_lt_of_cell? w _ hw388_3)).trans hw388_3), ((HB.out.cell (World.block_lt_of_cell? w _ hw388_4)).trans hw388_4)⟩ (fun hHeld => ?_); refine with_tabW write_within.tab1 write_within.bits1 (fun HT_ HW_ => ?_)
  generalize w.drew = w21 at HB HR388_4 hx388_0 hx388_1 hx388_2 hx388_3 hx388_4 hHeld ⊢
  refine pure_ (i := 0) (N := some 8) (v := ?_) (a' := ?_) #[true, false, false, false, false, false, false, false, false, false] rfl rfl (any_of HT_.out (by kernel_rfl)) (fun _ _ _ h => h) (Or.inl ⟨by rfl, ?_⟩) ?_ ?_
  rotate_left
  ·intro w'
   go_simp
   with_reducible rfl
  rotate_left
  ·simp only [Act.put, List.setIfInBounds_toArray, List.set_cons_zero, List.set_cons_succ, i64_w, i32_w]
   rfl
  refine pure_ (i := 1) (N := some 9) (v := ?_) (a' := ?_) #[true, true, false, false, false, false, false, false, false, false] rfl rfl (any_of HT_.out (by kernel_rfl)) (fun _ _ _ h => h) (Or.inl ⟨by rfl, ?_⟩) ?_ ?_
  rotate_left
  ·intro w'
   go_simp
   with_reducible rfl
  rotate_left
  ·simp only [Act.put, List.setIfInBounds_toArray, List.set_cons_zero, List.set_cons_succ, i64_w, i32_w]
   rfl
  refine pure_ (i := 2) (N := some 10) (v := ?_) (a' := ?_) #[true, true, true, false, false, false, false, false, false, false] rfl rfl (any_of HT_.out (by kernel_rfl)) (fun _ _ _ h => h) (Or.inl ⟨by rfl, ?_⟩) ?_ ?_
  rotate_left
  ·intro w'
   go_simp
   with_reducible rfl
  rotate_left
  ·simp only [Act.put, List.setIfInBounds_toArray, List.set_cons_zero, List.set_cons_succ, i64_w, i32_w]
   rfl
  refine pure_ (i := 4) (N := some 12) (v := ?_) (a' := ?_) #[true, true, true, false, true, false, false, false, false, false] rfl rfl (any_of HT_.out (by kernel_rfl)) (fun _ _ _ h => h) (Or.inl ⟨by rfl, ?_⟩) ?_ ?_
  rotate_left
  ·intro w'
   go_simp
   with_reducible rfl
  rotate_left
  ·simp only [Act.put, List.setIfInBounds_toArray, List.set_cons_zero, List.set_cons_succ, i64_w, i32_w]
   rfl
  refine pure_ (i := 5) (N := some 13) (v := ?_) (a' := ?_) #[true, true, true, false, true, true, false, false, false, false] rfl rfl (any_of HT_.out (by kernel_rfl)) (fun _ _ _ h => h) (Or.inl ⟨by rfl, ?_⟩) ?_ ?_
  rotate_left
  ·intro w'
   go_simp
   with_reducible rfl
  rotate_left
  ·simp only [Act.put, List.setIfInBounds_toArray, List.set_cons_zero, List.set_cons_succ, i64_w, i32_w]
   rfl
  refine take_ (i := 3) (N := some 11) (v := ?_) (a' := ?_) #[true, true, true, true, true, true, false, false, false, false] rfl rfl (take_ofW HT_.out HW_.out (by kernel_rfl)) (fun _ _ _ h => h) (Or.inl ⟨by rfl, ?_⟩) hHeld ?_ ?_
  rotate_left
  ·rintro w' ⟨s0, s1, s2, s3, s4⟩
   go_simp
   with_reducible rfl
  rotate_left
  ·simp only [Act.put, List.setIfInBounds_toArray, List.set_cons_zero, List.set_cons_succ, i64_w, i32_w]
   rfl
  refine join_ (σ := Value × Nat) 2 #[true, true, true, true, true, true, true, true, false, false] (fun s_ => [(14, s_.1), (5, .pointer (some ⟨s_.2, 0, none⟩))]) (fun s_ w' => (w'.cell? (ad388.add ((a1).toNat * 5)) = some (.int .i64 ((rd_T35 l0 a1).f0)) ∧ w'.cell? ⟨(ad388.add ((a1).toNat * 5)).block, (ad388.add ((a1).toNat * 5)).off + 1, none⟩ = some (.int .i64 ((rd_T35 l0 a1).f1)) ∧ w'.cell? ⟨(ad388.add ((a1).toNat * 5)).block, (ad388.add ((a1).toNat * 5)).off + 2, none⟩ = some (.string ((rd_T35 l0 a1).f2)) ∧ w'.cell? ⟨(ad388.add ((a1).toNat * 5)).block, (ad388.add ((a1).toNat * 5)).off + 3, none⟩ = some (.string ((rd_T35 l0 a1).f3)) ∧ w'.cell? ⟨(ad388.add ((a1).toNat * 5)).block, (ad388.add ((a1).toNat * 5)).off + 4, none⟩ = some (.slice A388_4 ((rd_T35 l0 a1).f4).length c388_4)) ∧ (Kd.R (Kd.int .i64) 3 w' w.heap.size (fun _ => True) s_.1 t389) ∧ (w'.heap[s_.2]? = some (.cells #[.int .i64 0, .int .i64 0, .string (⟨#[]⟩ : ByteArray), .string (⟨#[]⟩ : ByteArray), .slice none 0 0] 35 (0, 0))) ∧ (w.heap.size ≤ s_.2) ∧ (w.heap.size ≤ s_.2) ∧ (Below w.heap.size w w')) ?_ ?_
  rotate_left
  ·intro hCont
   refine two_ (i := 6) (j := 7) (Ni := some 14) (Nj := some 5) #[true, true, true, true, true, true, true, false, false, false] #[true, true, true, true, true, true, false, true, false, false] rfl rfl rfl rfl (two_of HT_.out (by kernel_rfl)) (by decide) (by decide) (fun K hK => ?_) (fun K hK => ?_)
   ·skip
    refine goes_ Tryd.func35 (by kernel_rfl) rfl #[.slice (some ad388) l0.length c0, .int .i64 a1] (by rfl) rfl rfl y15_ ?_
    with_reducible refine (rows_Kids.calls _ _ l0 a1 t389 _ ?side1 ?side2 A5.out).mono ?_
    (case side1 => repeat (first | exact (Kd.C_below HR0.out HB.out) | (with_reducible refine Kd.C_alloc ?_ _) | (with_reducible refine Kd.C_drewN ?_ _) | (with_reducible refine Kd.C_drew ?_)))
    (case side2 => exact HC0.out)
    rintro e w22 ⟨v390, rfl, ho0, hb⟩
    refine ⟨_, rfl, ?_⟩
    have n0_ := Aside0.mk (Kd.R_lower ho0 (below_size y14_))
    have n1_ := Aside0.mk (below_step y14_ hb)
    clear HB
    have HO391 := n0_
    have HB := n1_
    clear n0_ n1_
    (try clear hb)
    (try clear hb2)
    (try clear hk)
    (try clear hi)
    (try clear ho0)
    refine hK.out _ _ ⟨((HB.out.cell (World.block_lt_of_cell? w _ hw388_0)).trans hw388_0), ((HB.out.cell (World.block_lt_of_cell? w _ hw388_1)).trans hw388_1), ((HB.out.cell (World.block_lt_of_cell? w _ hw388_2)).trans hw388_2), ((HB.out.cell (World.block_lt_of_cell? w _ hw388_3)).trans hw388_3), ((HB.out.cell (World.block_lt_of_cell? w _ hw388_4)).trans hw388_4)⟩ (fun hHeld => ?_)
    clear hK K
    refine norm_ (a' := ?_) ?_ ?_
    rotate_left
    ·show Act.put _ (some 14) _ = _
     simp only [Act.put, List.setIfInBounds_toArray, List.set_cons_zero, List.set_cons_succ, i64_w, i32_w]
     rfl
    refine one_ (i := 7) (N := some 5) #[true, true, true, true, true, true, true, true, false, false] rfl rfl (one_of HT_.out (by kernel_rfl)) (by decide) (fun K hK => ?_)
    refine box_step ?hg (N := 5) ?hd (cs := #[.int .i64 0, .int .i64 0, .string (⟨#[]⟩ : ByteArray), .string (⟨#[]⟩ : ByteArray), .slice none 0 0]) (t := 35) ?hr ?_; (case hd => rfl); (case hg => rfl); (case hr => first | (go_simp; done) | (go_simp; rfl))
    intro gb392 hg w23 hbox hb
    have n0_ := Aside0.mk (Kd.R_below (y8_ HO391.out) hb)
    have n1_ := Aside0.mk (below_step y14_ hb)
    have n2_ := Aside0.mk (hbox)
    have n3_ := Aside0.mk ((by rw [hg]; exact (below_size y14_) : w.heap.size ≤ gb392))
    have n4_ := Aside0.mk ((by rw [hg]; exact (below_size y14_) : w.heap.size ≤ gb392))
    clear HO391
    clear HB
    have HO391 := n0_
    have HB := n1_
    have BK392 := n2_
    have GW392 := n3_
    have GE392 := n4_
    clear n0_ n1_ n2_ n3_ n4_
    clear hb hbox hg
    refine hK.out _ _ ⟨((HB.out.cell (World.block_lt_of_cell? w _ hw388_0)).trans hw388_0), ((HB.out.cell (World.block_lt_of_cell? w _ hw388_1)).trans hw388_1), ((HB.out.cell (World.block_lt_of_cell? w _ hw388_2)).trans hw388_2), ((HB.out.cell (World.block_lt_of_cell? w _ hw388_3)).trans hw388_3), ((HB.out.cell (World.block_lt_of_cell? w _ hw388_4)).trans hw388_4)⟩ (fun hHeld => ?_)
    clear hK K
    refine norm_ (a' := ?_) ?_ ?_
    rotate_left
    ·show Act.put _ (some 5) _ = _
     simp only [Act.put, List.setIfInBounds_toArray, List.set_cons_zero, List.set_cons_succ, i64_w, i32_w]
     rfl
    exact norm_ y7_ (hCont (v390, gb392) _ ⟨hHeld, (y8_ HO391.out), (y12_ BK392.out), GW392.out, GE392.out, (y19_ GE392.out)⟩)
   ·skip
    refine box_step ?hg (N := 5) ?hd (cs := #[.int .i64 0, .int .i64 0, .string (⟨#[]⟩ : ByteArray), .string (⟨#[]⟩ : ByteArray), .slice none 0 0]) (t := 35) ?hr ?_; (case hd => rfl); (case hg => rfl); (case hr => first | (go_simp; done) | (go_simp; rfl))
    intro gb392 hg w22 hbox hb
    have n0_ := Aside0.mk (below_step y14_ hb)
    have n1_ := Aside0.mk (hbox)
    have n2_ := Aside0.mk ((by rw [hg]; exact (below_size y14_) : w.heap.size ≤ gb392))
    have n3_ := Aside0.mk ((by rw [hg]; exact (below_size y14_) : w.heap.size ≤ gb392))
    clear HB
    have HB := n0_
    have BK392 := n1_
    have GW392 := n2_
    have GE392 := n3_
    clear n0_ n1_ n2_ n3_
    clear hb hbox hg
    refine hK.out _ _ ⟨((HB.out.cell (World.block_lt_of_cell? w _ hw388_0)).trans hw388_0), ((HB.out.cell (World.block_lt_of_cell? w _ hw388_1)).trans hw388_1), ((HB.out.cell (World.block_lt_of_cell? w _ hw388_2)).trans hw388_2), ((HB.out.cell (World.block_lt_of_cell? w _ hw388_3)).trans hw388_3), ((HB.out.cell (World.block_lt_of_cell? w _ hw388_4)).trans hw388_4)⟩ (fun hHeld => ?_)
    clear hK K
    refine norm_ (a' := ?_) ?_ ?_
    rotate_left
    ·show Act.put _ (some 5) _ = _
     simp only [Act.put, List.setIfInBounds_toArray, List.set_cons_zero, List.set_cons_succ, i64_w, i32_w]
     rfl
    refine one_ (i := 6) (N := some 14) #[true, true, true, true, true, true, true, true, false, false] rfl rfl (one_of HT_.out (by kernel_rfl)) (by decide) (fun K hK => ?_)
    refine goes_ Tryd.func35 (by kernel_rfl) rfl #[.slice (some ad388) l0.length c0, .int .i64 a1] (by rfl) rfl rfl y15_ ?_
    with_reducible refine (rows_Kids.calls _ _ l0 a1 t389 _ ?side1 ?side2 A5.out).mono ?_
    (case side1 => repeat (first | exact (Kd.C_below HR0.out HB.out) | (with_reducible refine Kd.C_alloc ?_ _) | (with_reducible refine Kd.C_drewN ?_ _) | (with_reducible refine Kd.C_drew ?_)))
    (case side2 => exact HC0.out)
    rintro e w23 ⟨v390, rfl, ho0, hb⟩
    refine ⟨_, rfl, ?_⟩
    have n0_ := Aside0.mk (Kd.R_lower ho0 (below_size (y19_ GE392.out)))
    have n1_ := Aside0.mk (blk_below (g := gb392) (o := .cells #[.int .i64 0, .int .i64 0, .string (⟨#[]⟩ : ByteArray), .string (⟨#[]⟩ : ByteArray), .slice none 0 0] 35 (0, 0)) (y12_ BK392.out) hb)
    have n2_ := Aside0.mk (below_step (y19_ GE392.out) hb)
    clear BK392
    clear HB
    have HO391 := n0_
    have BK392 := n1_
    have HB := n2_
    clear n0_ n1_ n2_
    (try clear hb)
    (try clear hb2)
    (try clear hk)
    (try clear hi)
    (try clear ho0)
    refine hK.out _ _ ⟨((HB.out.cell (World.block_lt_of_cell? w _ hw388_0)).trans hw388_0), ((HB.out.cell (World.block_lt_of_cell? w _ hw388_1)).trans hw388_1), ((HB.out.cell (World.block_lt_of_cell? w _ hw388_2)).trans hw388_2), ((HB.out.cell (World.block_lt_of_cell? w _ hw388_3)).trans hw388_3), ((HB.out.cell (World.block_lt_of_cell? w _ hw388_4)).trans hw388_4)⟩ (fun hHeld => ?_)
    clear hK K
    refine norm_ (a' := ?_) ?_ ?_
    rotate_left
    ·show Act.put _ (some 14) _ = _
     simp only [Act.put, List.setIfInBounds_toArray, List.set_cons_zero, List.set_cons_succ, i64_w, i32_w]
     rfl
    exact norm_ y7_ (hCont (v390, gb392) _ ⟨hHeld, (y8_ HO391.out), (y12_ BK392.out), GW392.out, GE392.out, (y19_ GE392.out)⟩)
  rintro ⟨v390, gb392⟩ w24 ⟨hS_, h0_, h1_, h2_, h3_, h4_⟩
  have n0_ : Aside0 (Kd.R (Kd.int .i64) 3 w24 w.heap.size (fun _ => True) v390 t389) := ⟨h0_⟩
  have n1_ : Aside0 (w24.heap[gb392]? = some (.cells #[.int .i64 0, .int .i64 0, .string (⟨#[]⟩ : ByteArray), .string (⟨#[]⟩ : ByteArray), .slice none 0 0] 35 (0, 0))) := ⟨h1_⟩
  have n2_ : Aside0 (w.heap.size ≤ gb392) := ⟨h2_⟩
  have n3_ : Aside0 (w.heap.size ≤ gb392) := ⟨h3_⟩
  have n4_ : Aside0 (Below w.heap.size w w24) := ⟨h4_⟩
  clear HB
  clear h0_ h1_ h2_ h3_ h4_
  have HO391 := n0_
  have BK392 := n1_
  have GW392 := n2_
  have GE392 := n3_
  have HB := n4_
  clear n0_ n1_ n2_ n3_ n4_
  have hHeld : w24.cell? (ad388.add ((a1).toNat * 5)) = some (.int .i64 ((rd_T35 l0 a1).f0)) ∧ w24.cell? ⟨(ad388.add ((a1).toNat * 5)).block, (ad388.add ((a1).toNat * 5)).off + 1, none⟩ = some (.int .i64 ((rd_T35 l0 a1).f1)) ∧ w24.cell? ⟨(ad388.add ((a1).toNat * 5)).block, (ad388.add ((a1).toNat * 5)).off + 2, none⟩ = some (.string ((rd_T35 l0 a1).f2)) ∧ w24.cell? ⟨(ad388.add ((a1).toNat * 5)).block, (ad388.add ((a1).toNat * 5)).off + 3, none⟩ = some (.string ((rd_T35 l0 a1).f3)) ∧ w24.cell? ⟨(ad388.add ((a1).toNat * 5)).block, (ad388.add ((a1).toNat * 5)).off + 4, none⟩ = some (.slice A388_4 ((rd_T35 l0 a1).f4).length c388_4) := hS_
  refine norm_ (a' := ?_) ?_ ?_
  rotate_left
  ·simp only [putAll, Act.put, List.setIfInBounds_toArray, List.set_cons_zero, List.set_cons_succ]
   rfl
  refine one_ (i := 8) (N := none) #[true, true, true, true, true, true, true, true, true, false] rfl rfl (one_of HT_.out (by kernel_rfl)) (by decide) (fun K hK => ?_)
  have hs25 : w24.cell? ⟨gb392, 0, none⟩ = some (.int .i64 0) := (blk_cell BK392.out 0).trans rfl
  have hfs25 := blk_frozen BK392.out 0
  have hs26 : w24.cell? ⟨gb392, 1, none⟩ = some (.int .i64 0) := (blk_cell BK392.out 1).trans rfl
  have hfs26 := blk_frozen BK392.out 1
  have hs27 : w24.cell? ⟨gb392, 2, none⟩ = some (.string (⟨#[]⟩ : ByteArray)) := (blk_cell BK392.out 2).trans rfl
  have hfs27 := blk_frozen BK392.out 2
  have hs28 : w24.cell? ⟨gb392, 3, none⟩ = some (.string (⟨#[]⟩ : ByteArray)) := (blk_cell BK392.out 3).trans rfl
  have hfs28 := blk_frozen BK392.out 3
  have hs29 : w24.cell? ⟨gb392, 4, none⟩ = some (.slice none 0 0) := (blk_cell BK392.out 4).trans rfl
  have hfs29 := blk_frozen BK392.out 4
  refine skip_ (w1 := ?_) (by rfl) rfl ?_ ?_
  rotate_left
  ·go_simp
   rfl
  refine hK.out _ _ ⟨((cell_far (p := ⟨gb392, _, none⟩) (y35_ hw388_0 GW392.out) _).trans (((cell_far (p := ⟨gb392, _, none⟩) (y35_ hw388_0 GW392.out) _).trans (((cell_far (p := ⟨gb392, _, none⟩) (y35_ hw388_0 GW392.out) _).trans (((cell_far (p := ⟨gb392, _, none⟩) (y35_ hw388_0 GW392.out) _).trans (((cell_far (p := ⟨gb392, _, none⟩) (y35_ hw388_0 GW392.out) _).trans (hHeld.1)))))))))), ((cell_far (p := ⟨gb392, _, none⟩) (y35_ hw388_1 GW392.out) _).trans (((cell_far (p := ⟨gb392, _, none⟩) (y35_ hw388_1 GW392.out) _).trans (((cell_far (p := ⟨gb392, _, none⟩) (y35_ hw388_1 GW392.out) _).trans (((cell_far (p := ⟨gb392, _, none⟩) (y35_ hw388_1 GW392.out) _).trans (((cell_far (p := ⟨gb392, _, none⟩) (y35_ hw388_1 GW392.out) _).trans (hHeld.2.1)))))))))), ((cell_far (p := ⟨gb392, _, none⟩) (y35_ hw388_2 GW392.out) _).trans (((cell_far (p := ⟨gb392, _, none⟩) (y35_ hw388_2 GW392.out) _).trans (((cell_far (p := ⟨gb392, _, none⟩) (y35_ hw388_2 GW392.out) _).trans (((cell_far (p := ⟨gb392, _, none⟩) (y35_ hw388_2 GW392.out) _).trans (((cell_far (p := ⟨gb392, _, none⟩) (y35_ hw388_2 GW392.out) _).trans (hHeld.2.2.1)))))))))), ((cell_far (p := ⟨gb392, _, none⟩) (y35_ hw388_3 GW392.out) _).trans (((cell_far (p := ⟨gb392, _, none⟩) (y35_ hw388_3 GW392.out) _).trans (((cell_far (p := ⟨gb392, _, none⟩) (y35_ hw388_3 GW392.out) _).trans (((cell_far (p := ⟨gb392, _, none⟩) (y35_ hw388_3 GW392.out) _).trans (((cell_far (p := ⟨gb392, _, none⟩) (y35_ hw388_3 GW392.out) _).trans (hHeld.2.2.2.1)))))))))), ((cell_far (p := ⟨gb392, _, none⟩) (y35_ hw388_4 GW392.out) _).trans (((cell_far (p := ⟨gb392, _, none⟩) (y35_ hw388_4 GW392.out) _).trans (((cell_far (p := ⟨gb392, _, none⟩) (y35_ hw388_4 GW392.out) _).trans (((cell_far (p := ⟨gb392, _, none⟩) (y35_ hw388_4 GW392.out) _).trans (((cell_far (p := ⟨gb392, _, none⟩) (y35_ hw388_4 GW392.out) _).trans (hHeld.2.2.2.2))))))))))⟩ (fun hHeld => ?_)
  clear hK K
  refine pure_ (i := 9) (N := some 6) (v := ?_) (a' := ?_) #[true, true, true, true, true, true, true, true, true, true] rfl rfl (any_of HT_.out (by kernel_rfl)) (fun _ _ _ h => h) (Or.inl ⟨by rfl, ?_⟩) ?_ ?_
  rotate_left
  ·intro w'
   go_simp
   with_reducible rfl
  rotate_left
  ·simp only [Act.put, List.setIfInBounds_toArray, List.set_cons_zero, List.set_cons_succ, i64_w, i32_w]
   rfl
  refine done_ (done_of HT_.out (by kernel_rfl)) ?_
  have hcz30_0 : w24.cell? ⟨gb392, 0, none⟩ = some (.int .i64 0) := (blk_cell BK392.out 0).trans rfl
  have hcz30_1 : w24.cell? ⟨gb392, 1, none⟩ = some (.int .i64 0) := (blk_cell BK392.out 1).trans rfl
  have hcz30_2 : w24.cell? ⟨gb392, 2, none⟩ = some (.string (⟨#[]⟩ : ByteArray)) := (blk_cell BK392.out 2).trans rfl
  have hcz30_3 : w24.cell? ⟨gb392, 3, none⟩ = some (.string (⟨#[]⟩ : ByteArray)) := (blk_cell BK392.out 3).trans rfl
  have hcz30_4 : w24.cell? ⟨gb392, 4, none⟩ = some (.slice none 0 0) := (blk_cell BK392.out 4).trans rfl
  have hfz30_0 := blk_frozen BK392.out 0
  have hfz30_1 := blk_frozen BK392.out 1
  have hfz30_2 := blk_frozen BK392.out 2
  have hfz30_3 := blk_frozen BK392.out 3
  have hfz30_4 := blk_frozen BK392.out 4
  go_upto_region 4 with (first | ((with_reducible refine gate_callee (f := 26) rfl ?_); refine goesL_ (some 18) rfl rfl Tryd.func26 (by kernel_rfl) rfl #[.string ((rd_T35 l0 a1).f2)] rfl y15_ ?_; (with_reducible refine (names_Void.calls k ((rd_T35 l0 a1).f2) false _ A6.out).mono ?_); rintro e w31 ⟨rfl, hb⟩; refine ⟨_, rfl, ?_⟩; have n0_ := Aside0.mk (Kd.R_below (by (with_reducible repeat (first | apply Kd.R_alloc | apply Kd.R_drewN | apply Kd.R_drew)); exact (Kd.R_mono (Kd.R_far (p := ⟨gb392, 4, none⟩) (Kd.R_far (p := ⟨gb392, 3, none⟩) (Kd.R_far (p := ⟨gb392, 2, none⟩) (Kd.R_far (p := ⟨gb392, 1, none⟩) (Kd.R_far (p := ⟨gb392, 0, none⟩) (Kd.R_types HO391.out BK392.out (by decide)) (fun _ hk => hk.2) (.int .i64 ((rd_T35 l0 a1).f0))) (fun _ hk => hk.2) (.int .i64 ((rd_T35 l0 a1).f1))) (fun _ hk => hk.2) (.string ((rd_T35 l0 a1).f2))) (fun _ hk => hk.2) (.string ((rd_T35 l0 a1).f3))) (fun _ hk => hk.2) (.slice A388_4 ((rd_T35 l0 a1).f4).length c388_4)) (fun _ h_ => h_.1))) hb); have n1_ := Aside0.mk (blk_below (g := gb392) (o := .cells #[.int .i64 ((rd_T35 l0 a1).f0), .int .i64 ((rd_T35 l0 a1).f1), .string ((rd_T35 l0 a1).f2), .string ((rd_T35 l0 a1).f3), .slice A388_4 ((rd_T35 l0 a1).f4).length c388_4] 35 (0, 0)) (y32_ BK392.out) hb); have n2_ := Aside0.mk (below_step (y19_ GE392.out) hb); clear HO391; clear BK392; clear HB; have HO391 := n0_; have BK392 := n1_; have HB := n2_; clear n0_ n1_ n2_; (try clear hb); (try clear hb2); (try clear hk); (try clear hi)))
  (try simp only [Act.put, List.setIfInBounds_toArray, List.set_cons_zero, List.set_cons_succ])
  go_cut [22] (fun v22 wc => ∃ (kq : Nat) (x22_19 : Bool), v22 = .bool x22_19 ∧ Aside0 (write_within.j0 kq l0 t389 x22_19 ((rd_T35 l0 a1).f0) ((rd_T35 l0 a1).f1) ((rd_T35 l0 a1).f2) ((rd_T35 l0 a1).f3) ((rd_T35 l0 a1).f4) = some r) ∧ Aside0 (kq ≤ k) ∧ Aside0 (Kd.R (Kd.int .i64) 3 wc w.heap.size (fun _ => True) v390 t389) ∧ Aside0 (wc.heap[gb392]? = some (.cells #[.int .i64 ((rd_T35 l0 a1).f0), .int .i64 ((rd_T35 l0 a1).f1), .string ((rd_T35 l0 a1).f2), .string ((rd_T35 l0 a1).f3), (.slice A388_4 ((rd_T35 l0 a1).f4).length c388_4)] 35 (0, 0))) ∧ Aside0 (Below w.heap.size w wc))
  case first =>
   have H := HC20.out
   clear HC20
   replace H := Option.bind_eq_some_iff.mp H
   obtain ⟨t394, A320, H⟩ := H
   have A32 := Aside0.mk A320
   clear A320
   by_cases c33 : t394 = true
   ·subst c33
    rw [if_pos rfl] at H
    have H' := Aside0.mk H
    clear H
    have hcz34_0 : w31.cell? ⟨gb392, 0, none⟩ = some (.int .i64 ((rd_T35 l0 a1).f0)) := (blk_cell BK392.out 0).trans rfl
    have hcz34_1 : w31.cell? ⟨gb392, 1, none⟩ = some (.int .i64 ((rd_T35 l0 a1).f1)) := (blk_cell BK392.out 1).trans rfl
    have hcz34_2 : w31.cell? ⟨gb392, 2, none⟩ = some (.string ((rd_T35 l0 a1).f2)) := (blk_cell BK392.out 2).trans rfl
    have hcz34_3 : w31.cell? ⟨gb392, 3, none⟩ = some (.string ((rd_T35 l0 a1).f3)) := (blk_cell BK392.out 3).trans rfl
    have hcz34_4 : w31.cell? ⟨gb392, 4, none⟩ = some (.slice A388_4 ((rd_T35 l0 a1).f4).length c388_4) := (blk_cell BK392.out 4).trans rfl
    have hfz34_0 := blk_frozen BK392.out 0
    have hfz34_1 := blk_frozen BK392.out 1
    have hfz34_2 := blk_frozen BK392.out 2
    have hfz34_3 := blk_frozen BK392.out 3
    have hfz34_4 := blk_frozen BK392.out 4
    go_wp2_with (first | ((with_reducible refine gate_callee (f := 40) rfl ?_); refine goesL_ (some 25) rfl rfl Tryd.func40 (by kernel_rfl) rfl #[.string ((rd_T35 l0 a1).f2)] rfl y15_ ?_; (with_reducible refine (names_Raw.calls k ((rd_T35 l0 a1).f2) true _ A32.out).mono ?_); rintro e w35 ⟨rfl, hb⟩; refine ⟨_, rfl, ?_⟩; have n0_ := Aside0.mk (Kd.R_below (y8_ HO391.out) hb); have n1_ := Aside0.mk (blk_below (g := gb392) (o := .cells #[.int .i64 ((rd_T35 l0 a1).f0), .int .i64 ((rd_T35 l0 a1).f1), .string ((rd_T35 l0 a1).f2), .string ((rd_T35 l0 a1).f3), .slice A388_4 ((rd_T35 l0 a1).f4).length c388_4] 35 (0, 0)) (y12_ BK392.out) hb); have n2_ := Aside0.mk (below_step (y19_ GE392.out) hb); clear HO391; clear BK392; clear HB; have HO391 := n0_; have BK392 := n1_; have HB := n2_; clear n0_ n1_ n2_; (try clear hb); (try clear hb2); (try clear hk); (try clear hi); obtain ⟨Ao36, co36, eo36⟩ := Kd.R_slice HO391.out; subst eo36))
    go_meet
    case rel => exact ⟨_, (((t389.length : Int) == 0)), y5_, H', ⟨y1_⟩, ⟨by (with_reducible repeat (first | apply Kd.R_alloc | apply Kd.R_drewN | apply Kd.R_drew)); exact HO391.out⟩, ⟨by (with_reducible repeat (first | refine blk_drewN ?_ _ | refine blk_drew ?_ | refine blk_alloc ?_ _)); exact BK392.out⟩, ⟨(y19_ GE392.out)⟩⟩
   ·replace c33 := Bool.eq_false_iff.mpr c33
    subst c33
    rw [if_neg (show ¬ (false = true) by decide)] at H
    replace H := Option.bind_eq_some_iff.mp H
    obtain ⟨t395, A370, H⟩ := H
    have A37 := Aside0.mk A370
    clear A370
    by_cases c38 : t395 = true
    ·subst c38
     rw [if_pos rfl] at H
     have H' := Aside0.mk H
     clear H
     have hcz39_0 : w31.cell? ⟨gb392, 0, none⟩ = some (.int .i64 ((rd_T35 l0 a1).f0)) := (blk_cell BK392.out 0).trans rfl
     have hcz39_1 : w31.cell? ⟨gb392, 1, none⟩ = some (.int .i64 ((rd_T35 l0 a1).f1)) := (blk_cell BK392.out 1).trans rfl
     have hcz39_2 : w31.cell? ⟨gb392, 2, none⟩ = some (.string ((rd_T35 l0 a1).f2)) := (blk_cell BK392.out 2).trans rfl
     have hcz39_3 : w31.cell? ⟨gb392, 3, none⟩ = some (.string ((rd_T35 l0 a1).f3)) := (blk_cell BK392.out 3).trans rfl
     have hcz39_4 : w31.cell? ⟨gb392, 4, none⟩ = some (.slice A388_4 ((rd_T35 l0 a1).f4).length c388_4) := (blk_cell BK392.out 4).trans rfl
     have hfz39_0 := blk_frozen BK392.out 0
     have hfz39_1 := blk_frozen BK392.out 1
     have hfz39_2 := blk_frozen BK392.out 2
     have hfz39_3 := blk_frozen BK392.out 3
     have hfz39_4 := blk_frozen BK392.out 4
     go_wp2_with (first | ((with_reducible refine gate_callee (f := 40) rfl ?_); refine goesL_ (some 25) rfl rfl Tryd.func40 (by kernel_rfl) rfl #[.string ((rd_T35 l0 a1).f2)] rfl y15_ ?_; (with_reducible refine (names_Raw.calls k ((rd_T35 l0 a1).f2) false _ A32.out).mono ?_); rintro e w40 ⟨rfl, hb⟩; refine ⟨_, rfl, ?_⟩; have n0_ := Aside0.mk (Kd.R_below (y8_ HO391.out) hb); have n1_ := Aside0.mk (blk_below (g := gb392) (o := .cells #[.int .i64 ((rd_T35 l0 a1).f0), .int .i64 ((rd_T35 l0 a1).f1), .string ((rd_T35 l0 a1).f2), .string ((rd_T35 l0 a1).f3), .slice A388_4 ((rd_T35 l0 a1).f4).length c388_4] 35 (0, 0)) (y12_ BK392.out) hb); have n2_ := Aside0.mk (below_step (y19_ GE392.out) hb); clear HO391; clear BK392; clear HB; have HO391 := n0_; have BK392 := n1_; have HB := n2_; clear n0_ n1_ n2_; (try clear hb); (try clear hb2); (try clear hk); (try clear hi); have hcz41_0 : w40.cell? ⟨gb392, 0, none⟩ = some (.int .i64 ((rd_T35 l0 a1).f0)) := (blk_cell BK392.out 0).trans rfl; have hcz41_1 : w40.cell? ⟨gb392, 1, none⟩ = some (.int .i64 ((rd_T35 l0 a1).f1)) := (blk_cell BK392.out 1).trans rfl; have hcz41_2 : w40.cell? ⟨gb392, 2, none⟩ = some (.string ((rd_T35 l0 a1).f2)) := (blk_cell BK392.out 2).trans rfl; have hcz41_3 : w40.cell? ⟨gb392, 3, none⟩ = some (.string ((rd_T35 l0 a1).f3)) := (blk_cell BK392.out 3).trans rfl; have hcz41_4 : w40.cell? ⟨gb392, 4, none⟩ = some (.slice A388_4 ((rd_T35 l0 a1).f4).length c388_4) := (blk_cell BK392.out 4).trans rfl; have hfz41_0 := blk_frozen BK392.out 0; have hfz41_1 := blk_frozen BK392.out 1; have hfz41_2 := blk_frozen BK392.out 2; have hfz41_3 := blk_frozen BK392.out 3; have hfz41_4 := blk_frozen BK392.out 4) | (go_at_call 57; (with_reducible refine (names_Soft.calls k ((rd_T35 l0 a1).f2) true _ A37.out).mono ?_); rintro e w42 ⟨rfl, hb⟩; have n0_ := Aside0.mk (Kd.R_below (y8_ HO391.out) hb); have n1_ := Aside0.mk (blk_below (g := gb392) (o := .cells #[.int .i64 ((rd_T35 l0 a1).f0), .int .i64 ((rd_T35 l0 a1).f1), .string ((rd_T35 l0 a1).f2), .string ((rd_T35 l0 a1).f3), .slice A388_4 ((rd_T35 l0 a1).f4).length c388_4] 35 (0, 0)) (y12_ BK392.out) hb); have n2_ := Aside0.mk (below_step (y19_ GE392.out) hb); clear HO391; clear BK392; clear HB; have HO391 := n0_; have BK392 := n1_; have HB := n2_; clear n0_ n1_ n2_; (try clear hb); (try clear hb2); (try clear hk); (try clear hi); obtain ⟨Ao43, co43, eo43⟩ := Kd.R_slice HO391.out; subst eo43))
     go_meet
     case rel => exact ⟨_, (((t389.length : Int) == 0)), y5_, H', ⟨y1_⟩, ⟨by (with_reducible repeat (first | apply Kd.R_alloc | apply Kd.R_drewN | apply Kd.R_drew)); exact HO391.out⟩, ⟨by (with_reducible repeat (first | refine blk_drewN ?_ _ | refine blk_drew ?_ | refine blk_alloc ?_ _)); exact BK392.out⟩, ⟨(y19_ GE392.out)⟩⟩
    ·replace c38 := Bool.eq_false_iff.mpr c38
     subst c38
     rw [if_neg (show ¬ (false = true) by decide)] at H
     have H' := Aside0.mk H
     clear H
     have hcz44_0 : w31.cell? ⟨gb392, 0, none⟩ = some (.int .i64 ((rd_T35 l0 a1).f0)) := (blk_cell BK392.out 0).trans rfl
     have hcz44_1 : w31.cell? ⟨gb392, 1, none⟩ = some (.int .i64 ((rd_T35 l0 a1).f1)) := (blk_cell BK392.out 1).trans rfl
     have hcz44_2 : w31.cell? ⟨gb392, 2, none⟩ = some (.string ((rd_T35 l0 a1).f2)) := (blk_cell BK392.out 2).trans rfl
     have hcz44_3 : w31.cell? ⟨gb392, 3, none⟩ = some (.string ((rd_T35 l0 a1).f3)) := (blk_cell BK392.out 3).trans rfl
     have hcz44_4 : w31.cell? ⟨gb392, 4, none⟩ = some (.slice A388_4 ((rd_T35 l0 a1).f4).length c388_4) := (blk_cell BK392.out 4).trans rfl
     have hfz44_0 := blk_frozen BK392.out 0
     have hfz44_1 := blk_frozen BK392.out 1
     have hfz44_2 := blk_frozen BK392.out 2
     have hfz44_3 := blk_frozen BK392.out 3
     have hfz44_4 := blk_frozen BK392.out 4
     go_wp2_with (first | ((with_reducible refine gate_callee (f := 40) rfl ?_); refine goesL_ (some 25) rfl rfl Tryd.func40 (by kernel_rfl) rfl #[.string ((rd_T35 l0 a1).f2)] rfl y15_ ?_; (with_reducible refine (names_Raw.calls k ((rd_T35 l0 a1).f2) false _ A32.out).mono ?_); rintro e w45 ⟨rfl, hb⟩; refine ⟨_, rfl, ?_⟩; have n0_ := Aside0.mk (Kd.R_below (y8_ HO391.out) hb); have n1_ := Aside0.mk (blk_below (g := gb392) (o := .cells #[.int .i64 ((rd_T35 l0 a1).f0), .int .i64 ((rd_T35 l0 a1).f1), .string ((rd_T35 l0 a1).f2), .string ((rd_T35 l0 a1).f3), .slice A388_4 ((rd_T35 l0 a1).f4).length c388_4] 35 (0, 0)) (y12_ BK392.out) hb); have n2_ := Aside0.mk (below_step (y19_ GE392.out) hb); clear HO391; clear BK392; clear HB; have HO391 := n0_; have BK392 := n1_; have HB := n2_; clear n0_ n1_ n2_; (try clear hb); (try clear hb2); (try clear hk); (try clear hi); have hcz46_0 : w45.cell? ⟨gb392, 0, none⟩ = some (.int .i64 ((rd_T35 l0 a1).f0)) := (blk_cell BK392.out 0).trans rfl; have hcz46_1 : w45.cell? ⟨gb392, 1, none⟩ = some (.int .i64 ((rd_T35 l0 a1).f1)) := (blk_cell BK392.out 1).trans rfl; have hcz46_2 : w45.cell? ⟨gb392, 2, none⟩ = some (.string ((rd_T35 l0 a1).f2)) := (blk_cell BK392.out 2).trans rfl; have hcz46_3 : w45.cell? ⟨gb392, 3, none⟩ = some (.string ((rd_T35 l0 a1).f3)) := (blk_cell BK392.out 3).trans rfl; have hcz46_4 : w45.cell? ⟨gb392, 4, none⟩ = some (.slice A388_4 ((rd_T35 l0 a1).f4).length c388_4) := (blk_cell BK392.out 4).trans rfl; have hfz46_0 := blk_frozen BK392.out 0; have hfz46_1 := blk_frozen BK392.out 1; have hfz46_2 := blk_frozen BK392.out 2; have hfz46_3 := blk_frozen BK392.out 3; have hfz46_4 := blk_frozen BK392.out 4) | (go_at_call 57; (with_reducible refine (names_Soft.calls k ((rd_T35 l0 a1).f2) false _ A37.out).mono ?_); rintro e w47 ⟨rfl, hb⟩; have n0_ := Aside0.mk (Kd.R_below (y8_ HO391.out) hb); have n1_ := Aside0.mk (blk_below (g := gb392) (o := .cells #[.int .i64 ((rd_T35 l0 a1).f0), .int .i64 ((rd_T35 l0 a1).f1), .string ((rd_T35 l0 a1).f2), .string ((rd_T35 l0 a1).f3), .slice A388_4 ((rd_T35 l0 a1).f4).length c388_4] 35 (0, 0)) (y12_ BK392.out) hb); have n2_ := Aside0.mk (below_step (y19_ GE392.out) hb); clear HO391; clear BK392; clear HB; have HO391 := n0_; have BK392 := n1_; have HB := n2_; clear n0_ n1_ n2_; (try clear hb); (try clear hb2); (try clear hk); (try clear hi)))
     go_meet
     case rel => exact ⟨_, (true), y5_, H', ⟨y1_⟩, ⟨by (with_reducible repeat (first | apply Kd.R_alloc | apply Kd.R_drewN | apply Kd.R_drew)); exact HO391.out⟩, ⟨by (with_reducible repeat (first | refine blk_drewN ?_ _ | refine blk_drew ?_ | refine blk_alloc ?_ _)); exact BK392.out⟩, ⟨(y19_ GE392.out)⟩⟩
  case rest =>
   clear HC20
   try clear c2
   try clear p2
   try clear c3
   try clear c3b0
   try clear p3
   try clear q3
   try clear hx3
   try clear c4
   try clear c4b0
   try clear c7
   try clear c26
   try clear c33
   try clear c35
   try clear c38
   try clear p38
   try clear q38
   try clear hx38
   try clear c40
   try clear hcz17_0
   try clear hcz17_1
   try clear hcz17_2
   try clear hcz17_3
   try clear hcz17_4
   try clear hcz30_0
   try clear hcz30_1
   try clear hcz30_2
   try clear hcz30_3
   try clear hcz30_4
   try clear hcz34_0
   try clear hcz34_1
   try clear hcz34_2
   try clear hcz34_3
   try clear hcz34_4
   try clear hcz39_0
   try clear hcz39_1
   try clear hcz39_2
   try clear hcz39_3
   try clear hcz39_4
   try clear hcz41_0
   try clear hcz41_1
   try clear hcz41_2
   try clear hcz41_3
   try clear hcz41_4
   try clear hcz44_0
   try clear hcz44_1
   try clear hcz44_2
   try clear hcz44_3
   try clear hcz44_4
   try clear hcz46_0
   try clear hcz46_1
   try clear hcz46_2
   try clear hcz46_3
   try clear hcz46_4
   try clear hfz17_0
   try clear hfz17_1
   try clear hfz17_2
   try clear hfz17_3
   try clear hfz17_4
   try clear hfz30_0
   try clear hfz30_1
   try clear hfz30_2
   try clear hfz30_3
   try clear hfz30_4
   try clear hfz34_0
   try clear hfz34_1
   try clear hfz34_2
   try clear hfz34_3
   try clear hfz34_4
   try clear hfz39_0
   try clear hfz39_1
   try clear hfz39_2
   try clear hfz39_3
   try clear hfz39_4
   try clear hfz41_0
   try clear hfz41_1
   try clear hfz41_2
   try clear hfz41_3
   try clear hfz41_4
   try clear hfz44_0
   try clear hfz44_1
   try clear hfz44_2
   try clear hfz44_3
   try clear hfz44_4
   try clear hfz46_0
   try clear hfz46_1
   try clear hfz46_2
   try clear hfz46_3
   try clear hfz46_4
   try clear hx388_0
   try clear hx388_1
   try clear hx388_2
   try clear hx388_3
   try clear hx388_4
   try clear p388
   try clear q388
   obtain ⟨kq, x22_19, rfl, HA, HJ19, HO_6, BK392, HB⟩ := hcut
   cases kq with
   | zero => exact absurd HA.out (by simp [write_within.j0])
   | succ kj19 =>
    have H := HA.out
    clear HA
    simp only [write_within.j0] at H
    by_cases c48 : x22_19 = true
    ·subst c48
     rw [if_pos rfl] at H
     obtain rfl := Option.some.inj H
     go_wp2
     go_ret
     exact ⟨y13_, (y19_ GE392.out)⟩
    ·replace c48 := Bool.eq_false_iff.mpr c48
     subst c48
     rw [if_neg (show ¬ (false = true) by decide)] at H
     have HC49 := Aside0.mk H
     clear H
     go_upto_region 6 with (fail)
     go_cut [38] (fun v38 wc => ∃ (kq : Nat) (x38_48 : Bool), v38 = .bool x38_48 ∧ Aside0 (write_within.j1 kq l0 t389 x38_48 ((rd_T35 l0 a1).f0) ((rd_T35 l0 a1).f1) ((rd_T35 l0 a1).f2) ((rd_T35 l0 a1).f3) ((rd_T35 l0 a1).f4) = some r) ∧ Aside0 (kq ≤ kj19) ∧ Aside0 (Kd.R (Kd.int .i64) 3 wc w.heap.size (fun _ => True) v390 t389) ∧ Aside0 (wc.heap[gb392]? = some (.cells #[.int .i64 ((rd_T35 l0 a1).f0), .int .i64 ((rd_T35 l0 a1).f1), .string ((rd_T35 l0 a1).f2), .string ((rd_T35 l0 a1).f3), (.slice A388_4 ((rd_T35 l0 a1).f4).length c388_4)] 35 (0, 0))) ∧ Aside0 (Below w.heap.size w wc))
     case first =>
      have H := HC49.out
      clear HC49
      by_cases c50 : (t389.length : Int) > 1
      ·rw [if_pos c50] at H
       have c50b0 : decide (1 < (t389.length : Int)) = true := decide_eq_true c50
       have c50b1 : decide (1 < t389.length) = true := decide_eq_true (by omega)
       clear c50
       (first | rw [c50b0] | (simp only [i64_w, i32_w]; rw [c50b0]) | skip)
       have H' := Aside0.mk H
       clear H
       obtain ⟨Ao51, co51, eo51⟩ := Kd.R_slice HO_6.out
       subst eo51
       go_wp2
       go_meet
       case rel => exact ⟨_, (true), y5_, H', ⟨by have := HJ19.out; first | omega | exact Nat.le_refl _⟩, ⟨by (with_reducible repeat (first | apply Kd.R_alloc | apply Kd.R_drewN | apply Kd.R_drew)); exact HO_6.out⟩, ⟨by (with_reducible repeat (first | refine blk_drewN ?_ _ | refine blk_drew ?_ | refine blk_alloc ?_ _)); exact BK392.out⟩, ⟨(y19_ GE392.out)⟩⟩
      ·rw [if_neg c50] at H
       have c50b0 : decide (1 < (t389.length : Int)) = false := decide_eq_false c50
       have c50b1 : decide (1 < t389.length) = false := decide_eq_false (by omega)
       clear c50
       (first | rw [c50b0] | (simp only [i64_w, i32_w]; rw [c50b0]) | skip)
       by_cases c52 : 0 < (t389.length : Int)
       rotate_left
       ·rw [if_neg c52] at H
        exact absurd H (by simp)
       rw [if_pos c52] at H
       have c52b0 : decide (0 < (t389.length : Int)) = true := decide_eq_true c52
       have c52b1 : decide (0 < t389.length) = true := decide_eq_true (by omega)
       clear c52
       by_cases c53 : 0 ≤ (rd t389 0)
       rotate_left
       ·rw [if_neg c53] at H
        exact absurd H (by simp)
       rw [if_pos c53] at H
       have c53b0 : decide (0 ≤ (rd t389 0)) = true := decide_eq_true c53
       clear c53
       by_cases c54 : (rd t389 0) < (l0.length : Int)
       rotate_left
       ·rw [if_neg c54] at H
        exact absurd H (by simp)
       rw [if_pos c54] at H
       have c54b0 : decide ((rd t389 0) < (l0.length : Int)) = true := decide_eq_true c54
       clear c54
       have H' := Aside0.mk H
       clear H
       obtain ⟨Ao55, co55, eo55⟩ := Kd.R_slice HO_6.out
       subst eo55
       have p396 : 0 ≤ (0 : Int) := (by omega)
       have q396 : 0 < (t389.length : Int) := of_decide_eq_true y2_
       obtain ⟨ad396, e396, hx396_0⟩ := Kd.at_int (Kd.R_reads' HO_6.out).2.2 0 p396 q396
       cases e396
       have qi396 : (0 < t389.length) = True := eq_true (by omega)
       (try rw [show ((0 : Int)).toNat = 0 from rfl] at hx396_0)
       (try rw [Addr.add_zero'] at hx396_0)
       replace p396 := eq_true p396
       replace q396 := eq_true q396
       have p397 : 0 ≤ ((rd t389 0) : Int) := of_decide_eq_true y2_
       have q397 : (rd t389 0) < (l0.length : Int) := of_decide_eq_true y2_
       obtain ⟨ad397, A397_4, c397_4, e397, hx397_0, hx397_1, hx397_2, hx397_3, hx397_4, hl397_4, hi397_4⟩ := at_T35 HR0.out (rd t389 0) p397 q397
       obtain rfl : ad388 = ad397 := (by injection e397)
       replace hx397_0 := (HB.out.cell (World.block_lt_of_cell? w _ hx397_0)).trans hx397_0
       replace hx397_1 := (HB.out.cell (World.block_lt_of_cell? w _ hx397_1)).trans hx397_1
       replace hx397_2 := (HB.out.cell (World.block_lt_of_cell? w _ hx397_2)).trans hx397_2
       replace hx397_3 := (HB.out.cell (World.block_lt_of_cell? w _ hx397_3)).trans hx397_3
       replace hx397_4 := (HB.out.cell (World.block_lt_of_cell? w _ hx397_4)).trans hx397_4
       try (have e_ := Option.some.inj (hx388_4.symm.trans hx397_4); injection e_ with ea_ eb_ ec_; rw [ea_, ec_] at hx388_4; clear ea_ eb_ ec_)
       have HR397_4 := Aside0.mk hi397_4
       have HC397_4 := Aside0.mk hl397_4
       clear hi397_4 hl397_4
       replace p397 := eq_true p397
       replace q397 := eq_true q397
       go_wp2
       go_meet
       case rel => exact ⟨_, ((((rd_T35 l0 (rd t389 0)).f1) != 1)), y5_, H', ⟨by have := HJ19.out; first | omega | exact Nat.le_refl _⟩, ⟨by (with_reducible repeat (first | apply Kd.R_alloc | apply Kd.R_drewN | apply Kd.R_drew)); exact HO_6.out⟩, ⟨by (with_reducible repeat (first | refine blk_drewN ?_ _ | refine blk_drew ?_ | refine blk_alloc ?_ _)); exact BK392.out⟩, ⟨(y19_ GE392.out)⟩⟩
     case rest =>
      clear HC49
      try clear c2
      try clear p2
      try clear c3
      try clear c3b0
      try clear p3
      try clear q3
      try clear hx3
      try clear qi3
      try clear c4
      try clear c4b0
      try clear c5
      try clear c7
      try clear c26
      try clear c33
      try clear c35
      try clear c38
      try clear p38
      try clear q38
      try clear hx38
      try clear c39
      try clear p39
      try clear q39
      try clear hx39
      try clear qi39
      try clear c40
      try clear c48
      try clear c50
      try clear c50b0
      try clear c50b1
      try clear c52
      try clear c52b0
      try clear c52b1
      try clear c53
      try clear c53b0
      try clear c54
      try clear c54b0
      try clear hcz17_0
      try clear hcz17_1
      try clear hcz17_2
      try clear hcz17_3
      try clear hcz17_4
      try clear hcz30_0
      try clear hcz30_1
      try clear hcz30_2
      try clear hcz30_3
      try clear hcz30_4
      try clear hcz34_0
      try clear hcz34_1
      try clear hcz34_2
      try clear hcz34_3
      try clear hcz34_4
      try clear hcz39_0
      try clear hcz39_1
      try clear hcz39_2
      try clear hcz39_3
      try clear hcz39_4
      try clear hcz41_0
      try clear hcz41_1
      try clear hcz41_2
      try clear hcz41_3
      try clear hcz41_4
      try clear hcz44_0
      try clear hcz44_1
      try clear hcz44_2
      try clear hcz44_3
      try clear hcz44_4
      try clear hcz46_0
      try clear hcz46_1
      try clear hcz46_2
      try clear hcz46_3
      try clear hcz46_4
      try clear hfz17_0
      try clear hfz17_1
      try clear hfz17_2
      try clear hfz17_3
      try clear hfz17_4
      try clear hfz30_0
      try clear hfz30_1
      try clear hfz30_2
      try clear hfz30_3
      try clear hfz30_4
      try clear hfz34_0
      try clear hfz34_1
      try clear hfz34_2
      try clear hfz34_3
      try clear hfz34_4
      try clear hfz39_0
      try clear hfz39_1
      try clear hfz39_2
      try clear hfz39_3
      try clear hfz39_4
      try clear hfz41_0
      try clear hfz41_1
      try clear hfz41_2
      try clear hfz41_3
      try clear hfz41_4
      try clear hfz44_0
      try clear hfz44_1
      try clear hfz44_2
      try clear hfz44_3
      try clear hfz44_4
      try clear hfz46_0
      try clear hfz46_1
      try clear hfz46_2
      try clear hfz46_3
      try clear hfz46_4
      try clear hx388_0
      try clear hx388_1
      try clear hx388_2
      try clear hx388_3
      try clear hx388_4
      try clear hx396_0
      try clear hx397_0
      try clear hx397_1
      try clear hx397_2
      try clear hx397_3
      try clear hx397_4
      try clear p2
      try clear p3
      try clear p38
      try clear p388
      try clear p396
      try clear p397
      try clear q3
      try clear q38
      try clear q388
      try clear q396
      try clear q397
      obtain ⟨kq, x38_48, rfl, HA, HJ48, HO_6, BK392, HB⟩ := hcut
      cases kq with
      | zero => exact absurd HA.out (by simp [write_within.j1])
      | succ kj48 =>
       have H := HA.out
       clear HA
       simp only [write_within.j1] at H
       by_cases c56 : x38_48 = true
       ·subst c56
        rw [if_pos rfl] at H
        obtain rfl := Option.some.inj H
        go_wp2
        go_ret
        exact ⟨y13_, (y19_ GE392.out)⟩
       ·replace c56 := Bool.eq_false_iff.mpr c56
        subst c56
        rw [if_neg (show ¬ (false = true) by decide)] at H
        by_cases c57 : 0 < (t389.length : Int)
        rotate_left
        ·rw [if_neg c57] at H
         exact absurd H (by simp)
        rw [if_pos c57] at H
        have c57b0 : decide (0 < (t389.length : Int)) = true := decide_eq_true c57
        have c57b1 : decide (0 < t389.length) = true := decide_eq_true (by omega)
        clear c57
        by_cases c58 : 0 ≤ (rd t389 0)
        rotate_left
        ·rw [if_neg c58] at H
         exact absurd H (by simp)
        rw [if_pos c58] at H
        have c58b0 : decide (0 ≤ (rd t389 0)) = true := decide_eq_true c58
        clear c58
        by_cases c59 : (rd t389 0) < (l0.length : Int)
        rotate_left
        ·rw [if_neg c59] at H
         exact absurd H (by simp)
        rw [if_pos c59] at H
        have c59b0 : decide ((rd t389 0) < (l0.length : Int)) = true := decide_eq_true c59
        clear c59
        replace H := Option.bind_eq_some_iff.mp H
        obtain ⟨t400, A600, H⟩ := H
        have A60 := Aside0.mk A600
        clear A600
        by_cases c61 : t400 = true
        ·subst c61
         rw [if_pos rfl] at H
         obtain rfl := Option.some.inj H
         obtain ⟨Ao62, co62, eo62⟩ := Kd.R_slice HO_6.out
         subst eo62
         have p398 : 0 ≤ (0 : Int) := (by omega)
         have q398 : 0 < (t389.length : Int) := of_decide_eq_true y2_
         obtain ⟨ad398, e398, hx398_0⟩ := Kd.at_int (Kd.R_reads' HO_6.out).2.2 0 p398 q398
         cases e398
         have qi398 : (0 < t389.length) = True := eq_true (by omega)
         (try rw [show ((0 : Int)).toNat = 0 from rfl] at hx398_0)
         (try rw [Addr.add_zero'] at hx398_0)
         replace p398 := eq_true p398
         replace q398 := eq_true q398
         have p399 : 0 ≤ ((rd t389 0) : Int) := of_decide_eq_true y2_
         have q399 : (rd t389 0) < (l0.length : Int) := of_decide_eq_true y2_
         obtain ⟨ad399, A399_4, c399_4, e399, hx399_0, hx399_1, hx399_2, hx399_3, hx399_4, hl399_4, hi399_4⟩ := at_T35 HR0.out (rd t389 0) p399 q399
         obtain rfl : ad388 = ad399 := (by injection e399)
         replace hx399_0 := (HB.out.cell (World.block_lt_of_cell? w _ hx399_0)).trans hx399_0
         replace hx399_1 := (HB.out.cell (World.block_lt_of_cell? w _ hx399_1)).trans hx399_1
         replace hx399_2 := (HB.out.cell (World.block_lt_of_cell? w _ hx399_2)).trans hx399_2
         replace hx399_3 := (HB.out.cell (World.block_lt_of_cell? w _ hx399_3)).trans hx399_3
         replace hx399_4 := (HB.out.cell (World.block_lt_of_cell? w _ hx399_4)).trans hx399_4
         try (have e_ := Option.some.inj (hx388_4.symm.trans hx399_4); injection e_ with ea_ eb_ ec_; rw [ea_, ec_] at hx388_4; clear ea_ eb_ ec_)
         have HR399_4 := Aside0.mk hi399_4
         have HC399_4 := Aside0.mk hl399_4
         clear hi399_4 hl399_4
         replace p399 := eq_true p399
         replace q399 := eq_true q399
         have hcz63_0 : wc.cell? ⟨gb392, 0, none⟩ = some (.int .i64 ((rd_T35 l0 a1).f0)) := (blk_cell BK392.out 0).trans rfl
         have hcz63_1 : wc.cell? ⟨gb392, 1, none⟩ = some (.int .i64 ((rd_T35 l0 a1).f1)) := (blk_cell BK392.out 1).trans rfl
         have hcz63_2 : wc.cell? ⟨gb392, 2, none⟩ = some (.string ((rd_T35 l0 a1).f2)) := (blk_cell BK392.out 2).trans rfl
         have hcz63_3 : wc.cell? ⟨gb392, 3, none⟩ = some (.string ((rd_T35 l0 a1).f3)) := (blk_cell BK392.out 3).trans rfl
         have hcz63_4 : wc.cell? ⟨gb392, 4, none⟩ = some (.slice A388_4 ((rd_T35 l0 a1).f4).length c388_4) := (blk_cell BK392.out 4).trans rfl
         have hfz63_0 := blk_frozen BK392.out 0
         have hfz63_1 := blk_frozen BK392.out 1
         have hfz63_2 := blk_frozen BK392.out 2
         have hfz63_3 := blk_frozen BK392.out 3
         have hfz63_4 := blk_frozen BK392.out 4
         go_wp2_with (first | ((with_reducible refine gate_callee (f := 57) rfl ?_); refine goesL_ (some 61) rfl rfl Tryd.func57 (by kernel_rfl) rfl #[.string ((rd_T35 l0 a1).f2)] rfl y15_ ?_; (with_reducible refine (names_Soft.calls kj48 ((rd_T35 l0 a1).f2) true _ A60.out).mono ?_); rintro e w64 ⟨rfl, hb⟩; refine ⟨_, rfl, ?_⟩; have n0_ := Aside0.mk (Kd.R_below (y8_ HO_6.out) hb); have n1_ := Aside0.mk (blk_below (g := gb392) (o := .cells #[.int .i64 ((rd_T35 l0 a1).f0), .int .i64 ((rd_T35 l0 a1).f1), .string ((rd_T35 l0 a1).f2), .string ((rd_T35 l0 a1).f3), .slice A388_4 ((rd_T35 l0 a1).f4).length c388_4] 35 (0, 0)) (y12_ BK392.out) hb); have n2_ := Aside0.mk (below_step (y19_ GE392.out) hb); clear HO_6; clear BK392; clear HB; have HO_6 := n0_; have BK392 := n1_; have HB := n2_; clear n0_ n1_ n2_; (try clear hb); (try clear hb2); (try clear hk); (try clear hi)))
         go_ret
         exact ⟨y13_, (y19_ GE392.out)⟩
        ·replace c61 := Bool.eq_false_iff.mpr c61
         subst c61
         rw [if_neg (show ¬ (false = true) by decide)] at H
         replace H := Option.bind_eq_some_iff.mp H
         obtain ⟨t401, A650, H⟩ := H
         have A65 := Aside0.mk A650
         clear A650
         by_cases c66 : t401 = true
         ·subst c66
          rw [if_pos rfl] at H
          obtain rfl := Option.some.inj H
          obtain ⟨Ao67, co67, eo67⟩ := Kd.R_slice HO_6.out
          subst eo67
          have p398 : 0 ≤ (0 : Int) := (by omega)
          have q398 : 0 < (t389.length : Int) := of_decide_eq_true y2_
          obtain ⟨ad398, e398, hx398_0⟩ := Kd.at_int (Kd.R_reads' HO_6.out).2.2 0 p398 q398
          cases e398
          have qi398 : (0 < t389.length) = True := eq_true (by omega)
          (try rw [show ((0 : Int)).toNat = 0 from rfl] at hx398_0)
          (try rw [Addr.add_zero'] at hx398_0)
          replace p398 := eq_true p398
          replace q398 := eq_true q398
          have p399 : 0 ≤ ((rd t389 0) : Int) := of_decide_eq_true y2_
          have q399 : (rd t389 0) < (l0.length : Int) := of_decide_eq_true y2_
          obtain ⟨ad399, A399_4, c399_4, e399, hx399_0, hx399_1, hx399_2, hx399_3, hx399_4, hl399_4, hi399_4⟩ := at_T35 HR0.out (rd t389 0) p399 q399
          obtain rfl : ad388 = ad399 := (by injection e399)
          replace hx399_0 := (HB.out.cell (World.block_lt_of_cell? w _ hx399_0)).trans hx399_0
          replace hx399_1 := (HB.out.cell (World.block_lt_of_cell? w _ hx399_1)).trans hx399_1
          replace hx399_2 := (HB.out.cell (World.block_lt_of_cell? w _ hx399_2)).trans hx399_2
          replace hx399_3 := (HB.out.cell (World.block_lt_of_cell? w _ hx399_3)).trans hx399_3
          replace hx399_4 := (HB.out.cell (World.block_lt_of_cell? w _ hx399_4)).trans hx399_4
          try (have e_ := Option.some.inj (hx388_4.symm.trans hx399_4); injection e_ with ea_ eb_ ec_; rw [ea_, ec_] at hx388_4; clear ea_ eb_ ec_)
          have HR399_4 := Aside0.mk hi399_4
          have HC399_4 := Aside0.mk hl399_4
          clear hi399_4 hl399_4
          replace p399 := eq_true p399
          replace q399 := eq_true q399
          have hcz68_0 : wc.cell? ⟨gb392, 0, none⟩ = some (.int .i64 ((rd_T35 l0 a1).f0)) := (blk_cell BK392.out 0).trans rfl
          have hcz68_1 : wc.cell? ⟨gb392, 1, none⟩ = some (.int .i64 ((rd_T35 l0 a1).f1)) := (blk_cell BK392.out 1).trans rfl
          have hcz68_2 : wc.cell? ⟨gb392, 2, none⟩ = some (.string ((rd_T35 l0 a1).f2)) := (blk_cell BK392.out 2).trans rfl
          have hcz68_3 : wc.cell? ⟨gb392, 3, none⟩ = some (.string ((rd_T35 l0 a1).f3)) := (blk_cell BK392.out 3).trans rfl
          have hcz68_4 : wc.cell? ⟨gb392, 4, none⟩ = some (.slice A388_4 ((rd_T35 l0 a1).f4).length c388_4) := (blk_cell BK392.out 4).trans rfl
          have hfz68_0 := blk_frozen BK392.out 0
          have hfz68_1 := blk_frozen BK392.out 1
          have hfz68_2 := blk_frozen BK392.out 2
          have hfz68_3 := blk_frozen BK392.out 3
          have hfz68_4 := blk_frozen BK392.out 4
          go_wp2_with (first | ((with_reducible refine gate_callee (f := 57) rfl ?_); refine goesL_ (some 61) rfl rfl Tryd.func57 (by kernel_rfl) rfl #[.string ((rd_T35 l0 a1).f2)] rfl y15_ ?_; (with_reducible refine (names_Soft.calls kj48 ((rd_T35 l0 a1).f2) false _ A60.out).mono ?_); rintro e w69 ⟨rfl, hb⟩; refine ⟨_, rfl, ?_⟩; have n0_ := Aside0.mk (Kd.R_below (y8_ HO_6.out) hb); have n1_ := Aside0.mk (blk_below (g := gb392) (o := .cells #[.int .i64 ((rd_T35 l0 a1).f0), .int .i64 ((rd_T35 l0 a1).f1), .string ((rd_T35 l0 a1).f2), .string ((rd_T35 l0 a1).f3), .slice A388_4 ((rd_T35 l0 a1).f4).length c388_4] 35 (0, 0)) (y12_ BK392.out) hb); have n2_ := Aside0.mk (below_step (y19_ GE392.out) hb); clear HO_6; clear BK392; clear HB; have HO_6 := n0_; have BK392 := n1_; have HB := n2_; clear n0_ n1_ n2_; (try clear hb); (try clear hb2); (try clear hk); (try clear hi)) | (go_at_call 51; (with_reducible refine (strings_Contains.calls ((rd_T35 l0 (rd t389 0)).f3) (⟨#[60, 47]⟩ : ByteArray) true _ A65.out).mono ?_); rintro e w70 ⟨rfl, hb⟩; have n0_ := Aside0.mk (Kd.R_below (y8_ HO_6.out) hb); have n1_ := Aside0.mk (blk_below (g := gb392) (o := .cells #[.int .i64 ((rd_T35 l0 a1).f0), .int .i64 ((rd_T35 l0 a1).f1), .string ((rd_T35 l0 a1).f2), .string ((rd_T35 l0 a1).f3), .slice A388_4 ((rd_T35 l0 a1).f4).length c388_4] 35 (0, 0)) (y12_ BK392.out) hb); have n2_ := Aside0.mk (below_step (y19_ GE392.out) hb); clear HO_6; clear BK392; clear HB; have HO_6 := n0_; have BK392 := n1_; have HB := n2_; clear n0_ n1_ n2_; (try clear hb); (try clear hb2); (try clear hk); (try clear hi)))
          go_ret
          exact ⟨y13_, (y19_ GE392.out)⟩
         ·replace c66 := Bool.eq_false_iff.mpr c66
          subst c66
          rw [if_neg (show ¬ (false = true) by decide)] at H
          replace H := Option.bind_eq_some_iff.mp H
          obtain ⟨t402, A710, H⟩ := H
          have A71 := Aside0.mk A710
          clear A710
          obtain rfl := Option.some.inj H
          obtain ⟨Ao72, co72, eo72⟩ := Kd.R_slice HO_6.out
          subst eo72
          have p398 : 0 ≤ (0 : Int) := (by omega)
          have q398 : 0 < (t389.length : Int) := of_decide_eq_true y2_
          obtain ⟨ad398, e398, hx398_0⟩ := Kd.at_int (Kd.R_reads' HO_6.out).2.2 0 p398 q398
          cases e398
          have qi398 : (0 < t389.length) = True := eq_true (by omega)
          (try rw [show ((0 : Int)).toNat = 0 from rfl] at hx398_0)
          (try rw [Addr.add_zero'] at hx398_0)
          replace p398 := eq_true p398
          replace q398 := eq_true q398
          have p399 : 0 ≤ ((rd t389 0) : Int) := of_decide_eq_true y2_
          have q399 : (rd t389 0) < (l0.length : Int) := of_decide_eq_true y2_
          obtain ⟨ad399, A399_4, c399_4, e399, hx399_0, hx399_1, hx399_2, hx399_3, hx399_4, hl399_4, hi399_4⟩ := at_T35 HR0.out (rd t389 0) p399 q399
          obtain rfl : ad388 = ad399 := (by injection e399)
          replace hx399_0 := (HB.out.cell (World.block_lt_of_cell? w _ hx399_0)).trans hx399_0
          replace hx399_1 := (HB.out.cell (World.block_lt_of_cell? w _ hx399_1)).trans hx399_1
          replace hx399_2 := (HB.out.cell (World.block_lt_of_cell? w _ hx399_2)).trans hx399_2
          replace hx399_3 := (HB.out.cell (World.block_lt_of_cell? w _ hx399_3)).trans hx399_3
          replace hx399_4 := (HB.out.cell (World.block_lt_of_cell? w _ hx399_4)).trans hx399_4
          try (have e_ := Option.some.inj (hx388_4.symm.trans hx399_4); injection e_ with ea_ eb_ ec_; rw [ea_, ec_] at hx388_4; clear ea_ eb_ ec_)
          have HR399_4 := Aside0.mk hi399_4
          have HC399_4 := Aside0.mk hl399_4
          clear hi399_4 hl399_4
          replace p399 := eq_true p399
          replace q399 := eq_true q399
          have hcz73_0 : wc.cell? ⟨gb392, 0, none⟩ = some (.int .i64 ((rd_T35 l0 a1).f0)) := (blk_cell BK392.out 0).trans rfl
          have hcz73_1 : wc.cell? ⟨gb392, 1, none⟩ = some (.int .i64 ((rd_T35 l0 a1).f1)) := (blk_cell BK392.out 1).trans rfl
          have hcz73_2 : wc.cell? ⟨gb392, 2, none⟩ = some (.string ((rd_T35 l0 a1).f2)) := (blk_cell BK392.out 2).trans rfl
          have hcz73_3 : wc.cell? ⟨gb392, 3, none⟩ = some (.string ((rd_T35 l0 a1).f3)) := (blk_cell BK392.out 3).trans rfl
          have hcz73_4 : wc.cell? ⟨gb392, 4, none⟩ = some (.slice A388_4 ((rd_T35 l0 a1).f4).length c388_4) := (blk_cell BK392.out 4).trans rfl
          have hfz73_0 := blk_frozen BK392.out 0
          have hfz73_1 := blk_frozen BK392.out 1
          have hfz73_2 := blk_frozen BK392.out 2
          have hfz73_3 := blk_frozen BK392.out 3
          have hfz73_4 := blk_frozen BK392.out 4
          go_wp2_with (first | ((with_reducible refine gate_callee (f := 57) rfl ?_); refine goesL_ (some 61) rfl rfl Tryd.func57 (by kernel_rfl) rfl #[.string ((rd_T35 l0 a1).f2)] rfl y15_ ?_; (with_reducible refine (names_Soft.calls kj48 ((rd_T35 l0 a1).f2) false _ A60.out).mono ?_); rintro e w74 ⟨rfl, hb⟩; refine ⟨_, rfl, ?_⟩; have n0_ := Aside0.mk (Kd.R_below (y8_ HO_6.out) hb); have n1_ := Aside0.mk (blk_below (g := gb392) (o := .cells #[.int .i64 ((rd_T35 l0 a1).f0), .int .i64 ((rd_T35 l0 a1).f1), .string ((rd_T35 l0 a1).f2), .string ((rd_T35 l0 a1).f3), .slice A388_4 ((rd_T35 l0 a1).f4).length c388_4] 35 (0, 0)) (y12_ BK392.out) hb); have n2_ := Aside0.mk (below_step (y19_ GE392.out) hb); clear HO_6; clear BK392; clear HB; have HO_6 := n0_; have BK392 := n1_; have HB := n2_; clear n0_ n1_ n2_; (try clear hb); (try clear hb2); (try clear hk); (try clear hi)) | (go_at_call 51; (with_reducible refine (strings_Contains.calls ((rd_T35 l0 (rd t389 0)).f3) (⟨#[60, 47]⟩ : ByteArray) false _ A65.out).mono ?_); rintro e w75 ⟨rfl, hb⟩; have n0_ := Aside0.mk (Kd.R_below (y8_ HO_6.out) hb); have n1_ := Aside0.mk (blk_below (g := gb392) (o := .cells #[.int .i64 ((rd_T35 l0 a1).f0), .int .i64 ((rd_T35 l0 a1).f1), .string ((rd_T35 l0 a1).f2), .string ((rd_T35 l0 a1).f3), .slice A388_4 ((rd_T35 l0 a1).f4).length c388_4] 35 (0, 0)) (y12_ BK392.out) hb); have n2_ := Aside0.mk (below_step (y19_ GE392.out) hb); clear HO_6; clear BK392; clear HB; have HO_6 := n0_; have BK392 := n1_; have HB := n2_; clear n0_ n1_ n2_; (try clear hb); (try clear hb2); (try clear hk); (try clear hi)) | (go_at_call 58; (with_reducible refine (strings_HasSuffix.calls ((rd_T35 l0 (rd t389 0)).f3) (⟨#[60]⟩ : ByteArray) t402 _ A71.out).mono ?_); rintro e w' ⟨rfl, ⟨nd, rfl⟩⟩))
          go_ret
          exact ⟨y13_, (y19_ GE392.out)⟩
end Go.Proofs.YtpnhjipaeggcpaaDoor.X
end
