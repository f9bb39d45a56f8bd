/- A part of a proof, put together by this session's own program out of its texts. -/
import Derived.Test.YtpnhjipaeggcpaaDoorC4
import Derived.Test.YtpnhjipaeggcpaaDoorRows
import Derived.Deep.Slices
import Derived.Deep.Fields
import Derived.ChangeSame
import Derived.ProofKit
import Derived.OpenShut
import Derived.SizedLaws
import Derived.Lib.LaidIn
import Derived.Lib.LaidU8T
import Derived.Lib.Builder
import Derived.Laws.Externs
import Derived.Laws.EntriesVeiled
import Derived.WalkMore
import Derived.Deep.WholeRow
import Derived.Laws.RangeAny
import Derived.Laws.Runes
import Derived.Lib.MapLaws
import Derived.Lib.DecodeN
set_option linter.unusedVariables false
set_option linter.unusedSimpArgs false
section
namespace Go.Proofs.YtpnhjipaeggcpaaDoor.X
open Go.ChangeShapes Go.WideShapes Go.Deep Go.RowKit Go.Shelf
open Go.Proofs.YtpnhjipaeggcpaaDoorW.PrintWords Go.Proofs.YtpnhjipaeggcpaaDoorW.PrintLast Go.Proofs.YtpnhjipaeggcpaaDoorW.PrintMore
abbrev RowR := S35
abbrev AttR := S41
instance : Inhabited AttR := ⟨z41⟩
instance : Inhabited RowR := ⟨z35⟩
section
variable {H : Type} {enc : TypeId × Value → H} {P : Program} {w : World} {base : Nat} {spare : Nat → Bool} {held : Bool}
theorem bulk_one {l : List (DataW H)} {d : DataW H} (h : d ∈ l) : Rows.uptoBulk d ≤ Rows.uptoBulkAll l := by
  induction l with
  | nil => cases h
  | cons x r ih =>
    simp only [Rows.uptoBulkAll]
    rcases List.mem_cons.1 h with rfl | h
    · omega
    · have := ih h; omega
theorem open_slice_fields {t e : TypeId} {fs : Array Field} {fuel : Nat} {cs : List Value} {x : DataW H × List MemPlace} (ht : P.underlying t = some (.slice e)) (he : P.underlying e = some (.struct fs))
    (hone : oneCellFields P fs = true) (hC : P.cellsOf e = fs.size) (h : DataW.trod enc P w base spare held fuel t cs = some x) :
    (cs = [.slice none 0 0] ∧ x = (.nil, [])) ∨
    ∃ (a : Addr) (len cap : Nat) (D : Nat → DataW H), cs = [.slice (some a) len cap] ∧ len ≤ cap ∧ cap ≤ maxLen ∧ (∀ i, i < len → Rows.uptoBulk (D i) ≤ Rows.uptoBulk x.1) ∧
      ∀ i, i < len → ∃ (ys : List (DataW H × List MemPlace)) (n : Nat), D i = .agg (ys.map (·.1)) ∧ ys.length = fs.size ∧
        ∀ (j : Nat) (f : Field), fs[j]? = some f → ∃ (v : Value) (y : DataW H × List MemPlace), w.cell? (a.add (i * fs.size + j)) = some v ∧ ys[j]? = some y ∧ DataW.trod enc P w base spare held n f.type [v] = some y := by
  rcases open_slice ht h with h0 | ⟨a, len, cap, m, n, D, Pl, hcs, hb, hl, hm, hmm, hx, hi⟩
  · exact .inl h0
  · refine .inr ⟨a, len, cap, D, hcs, hl, hm, fun i hil => ?_, fun i hil => ?_⟩
    · rw [hx]
      show _ ≤ Rows.uptoBulk (.slice ((List.range len).map D) _)
      simp only [Rows.uptoBulk]
      have := bulk_one (H := H) (l := (List.range len).map D) (d := D i) (List.mem_map.2 ⟨i, List.mem_range.2 hil, rfl⟩)
      omega
    have him : i < m := by rw [hmm]; split <;> omega
    obtain ⟨cs', hc, ht'⟩ := hi i him
    rw [hC] at hc
    obtain ⟨ys, n', hn', hy, hlen, hyl, hf⟩ := DataW.trod_struct he ht'
    obtain ⟨_, hcl, hat⟩ := World.cells?_some hc
    simp only [Prod.mk.injEq] at hy
    refine ⟨ys, n', hy.1, hyl, fun j f hj => ?_⟩
    obtain ⟨ho, hk⟩ := hone_of hone j f hj
    have hjl : j < fs.size := (Array.getElem?_eq_some_iff.1 hj).1
    have hcell := hat j hjl
    have hv : cs'[j]? = some (cs'[j]'(by omega)) := List.getElem?_eq_getElem (by omega)
    have h1 := hf j f hj
    rw [ho, hk] at h1
    have hone' : (cs'.drop j).take 1 = [cs'[j]'(by omega)] := by
      rw [List.drop_eq_getElem_cons (by omega)]
      rfl
    rw [hone'] at h1
    have hys : ys[j]? = some (ys[j]'(by omega)) := List.getElem?_eq_getElem (by omega)
    refine ⟨_, _, ?_, hys, h1.trans hys⟩
    rw [← Go.Deep.add_add, hcell, hv]
end
section
variable {H : Type} {enc : TypeId × Value → H} {W : World} {base : Nat} {spare : Nat → Bool} {held : Bool}
theorem bulk_agg {ys : List (DataW H × List MemPlace)} {j : Nat} {y : DataW H × List MemPlace} (h : ys[j]? = some y) : Rows.uptoBulk y.1 ≤ Rows.uptoBulk (.agg (ys.map (·.1))) := by
  simp only [Rows.uptoBulk]
  have := bulk_one (H := H) (l := ys.map (·.1)) (d := y.1) (List.mem_map.2 ⟨y, List.mem_of_getElem? h, rfl⟩)
  omega
theorem open_str {fuel : Nat} {v : Value} {y : DataW H × List MemPlace} (h : DataW.trod enc Tryd.prog W base spare held fuel 9 [v] = some y) : ∃ s : ByteArray, v = .string s ∧ s.size ≤ Rows.uptoBulk y.1 := by
  obtain ⟨s, e, rfl, _⟩ := DataW.trod_string Tryd.underlying9 h
  refine ⟨s, by simpa using e, ?_⟩
  simp only [Rows.uptoBulk]
  have : s.data.toList.length = s.size := Array.length_toList
  omega
theorem at_range {α : Type} {f : Nat → α} {n j : Nat} {p : α} (h : ((List.range n).map f)[j]? = some p) : j < n ∧ p = f j := by
  rw [List.getElem?_map] at h
  obtain ⟨i, hi, rfl⟩ := Option.map_eq_some_iff.1 h
  obtain ⟨h1, h2⟩ := List.getElem?_eq_some_iff.1 hi
  rw [List.length_range] at h1
  rw [List.getElem_range] at h2
  exact ⟨h1, by rw [h2]⟩
theorem open_attrs {fuel : Nat} {v : Value} {y : DataW H × List MemPlace} (h : DataW.trod enc Tryd.prog W base spare held fuel 33 [v] = some y) :
    ∃ (A : Option Addr) (c : Nat) (l : List AttR), v = .slice A l.length c ∧ l.length ≤ c ∧ Kd.C k41 W A l.length l ∧ ∀ a ∈ l, a.f0.size ≤ Rows.uptoBulk y.1 ∧ a.f1.size ≤ Rows.uptoBulk y.1 := by
  rcases open_slice_fields Tryd.underlying33 Tryd.underlying41 (by kernel_rfl) (by kernel_rfl) h with ⟨e, _⟩ | ⟨a, len, cap, D, e, hl, hm, hb, hi⟩
  · obtain rfl : v = .slice none 0 0 := by simpa using e
    exact ⟨none, 0, [], rfl, Nat.le_refl _, ⟨rfl, by decide, fun h => absurd h (by simp)⟩, fun a ha => by cases ha⟩
  · obtain rfl : v = .slice (some a) len cap := by simpa using e
    have hx : ∀ i, i < len → ∃ x : AttR, W.cell? (a.add (i * 2 + 0)) = some (.string x.f0) ∧ W.cell? (a.add (i * 2 + 1)) = some (.string x.f1) ∧ x.f0.size ≤ Rows.uptoBulk y.1 ∧ x.f1.size ≤ Rows.uptoBulk y.1 := fun i hil => by
      obtain ⟨ys, n, hD, hyl, hf⟩ := hi i hil
      have hbi := hb i hil
      rw [hD] at hbi
      obtain ⟨v0, y0, c0, e0, t0⟩ := hf 0 _ rfl
      obtain ⟨v1, y1, c1, e1, t1⟩ := hf 1 _ rfl
      obtain ⟨s0, rfl, z0⟩ := open_str t0
      obtain ⟨s1, rfl, z1⟩ := open_str t1
      have b0 := bulk_agg e0
      have b1 := bulk_agg e1
      exact ⟨⟨s0, s1⟩, c0, c1, by show s0.size ≤ _; omega, by show s1.size ≤ _; omega⟩
    obtain ⟨f, hf⟩ := choose_lt hx
    have hlen : ((List.range len).map f).length = len := by simp
    refine ⟨some a, cap, (List.range len).map f, by rw [hlen], by rw [hlen]; exact hl, ⟨rfl, by rw [hlen]; unfold maxLen at hm; omega, fun _ => ⟨a, rfl, fun j p hj => ?_⟩⟩, fun x hx => ?_⟩
    · obtain ⟨h1, rfl⟩ := at_range hj
      obtain ⟨c0, c1, _, _⟩ := hf j h1
      refine ⟨[.string (f j).f0, .string (f j).f1], rfl, k41_mk _ _, fun i u hu => ?_⟩
      match i, hu with
      | 0, hu => cases hu; exact c0
      | 1, hu => cases hu; exact c1
    · obtain ⟨i, hi', rfl⟩ := List.mem_map.1 hx
      exact (hf i (List.mem_range.1 hi')).2.2
theorem open_rows {fuel : Nat} {v : Value} {y : DataW H × List MemPlace} (h : DataW.trod enc Tryd.prog W base spare held fuel 22 [v] = some y) :
    ∃ (A : Option Addr) (c : Nat) (l : List RowR), v = .slice A l.length c ∧ l.length ≤ c ∧ Kd.C k35 W A l.length l ∧
      ∀ x ∈ l, x.f2.size ≤ Rows.uptoBulk y.1 ∧ x.f3.size ≤ Rows.uptoBulk y.1 ∧ ∀ a ∈ x.f4, a.f0.size ≤ Rows.uptoBulk y.1 ∧ a.f1.size ≤ Rows.uptoBulk y.1 := by
  rcases open_slice_fields Tryd.underlying22 Tryd.underlying35 (by kernel_rfl) (by kernel_rfl) h with ⟨e, _⟩ | ⟨a, len, cap, D, e, hl, hm, hb, hi⟩
  · obtain rfl : v = .slice none 0 0 := by simpa using e
    exact ⟨none, 0, [], rfl, Nat.le_refl _, ⟨rfl, by decide, fun h => absurd h (by simp)⟩, fun a ha => by cases ha⟩
  · obtain rfl : v = .slice (some a) len cap := by simpa using e
    have hx : ∀ i, i < len → ∃ x : RowR, (∃ A4 c4, W.cell? (a.add (i * 5 + 0)) = some (.int .i64 x.f0) ∧ W.cell? (a.add (i * 5 + 1)) = some (.int .i64 x.f1) ∧ W.cell? (a.add (i * 5 + 2)) = some (.string x.f2) ∧ W.cell? (a.add (i * 5 + 3)) = some (.string x.f3) ∧ W.cell? (a.add (i * 5 + 4)) = some (.slice A4 x.f4.length c4) ∧ x.f4.length ≤ c4 ∧ Kd.C k41 W A4 x.f4.length x.f4) ∧
        x.f2.size ≤ Rows.uptoBulk y.1 ∧ x.f3.size ≤ Rows.uptoBulk y.1 ∧ ∀ a ∈ x.f4, a.f0.size ≤ Rows.uptoBulk y.1 ∧ a.f1.size ≤ Rows.uptoBulk y.1 := fun i hil => by
      obtain ⟨ys, n, hD, hyl, hf⟩ := hi i hil
      have hbi := hb i hil
      rw [hD] at hbi
      obtain ⟨v0, y0, c0, e0, t0⟩ := hf 0 _ rfl
      obtain ⟨v1, y1, c1, e1, t1⟩ := hf 1 _ rfl
      obtain ⟨v2, y2, c2, e2, t2⟩ := hf 2 _ rfl
      obtain ⟨v3, y3, c3, e3, t3⟩ := hf 3 _ rfl
      obtain ⟨v4, y4, c4, e4, t4⟩ := hf 4 _ rfl
      obtain ⟨n0, f0, _, _⟩ := DataW.trod_int Tryd.underlying3 t0
      obtain ⟨n1, f1, _, _⟩ := DataW.trod_int Tryd.underlying3 t1
      obtain rfl : v0 = .int .i64 n0 := by simpa using f0
      obtain rfl : v1 = .int .i64 n1 := by simpa using f1
      obtain ⟨s2, rfl, z2⟩ := open_str t2
      obtain ⟨s3, rfl, z3⟩ := open_str t3
      obtain ⟨A4, cc, l4, rfl, hl4, hC4, hs4⟩ := open_attrs t4
      have b2 := bulk_agg e2
      have b3 := bulk_agg e3
      have b4 := bulk_agg e4
      exact ⟨⟨n0, n1, s2, s3, l4⟩, ⟨A4, cc, c0, c1, c2, c3, c4, hl4, hC4⟩, by show s2.size ≤ _; omega, by show s3.size ≤ _; omega, fun a ha => by have := hs4 a ha; omega⟩
    obtain ⟨f, hf⟩ := choose_lt hx
    have hlen : ((List.range len).map f).length = len := by simp
    refine ⟨some a, cap, (List.range len).map f, by rw [hlen], by rw [hlen]; exact hl, ⟨rfl, by rw [hlen]; unfold maxLen at hm; omega, fun _ => ⟨a, rfl, fun j p hj => ?_⟩⟩, fun x hx => ?_⟩
    · obtain ⟨h1, rfl⟩ := at_range hj
      obtain ⟨⟨A4, cc, c0, c1, c2, c3, c4, hl4, hC4⟩, _⟩ := hf j h1
      refine ⟨[.int .i64 (f j).f0, .int .i64 (f j).f1, .string (f j).f2, .string (f j).f3, .slice A4 (f j).f4.length cc], rfl, k35_mk _ _ hl4 hC4, fun i u hu => ?_⟩
      match i, hu with
      | 0, hu => cases hu; exact c0
      | 1, hu => cases hu; exact c1
      | 2, hu => cases hu; exact c2
      | 3, hu => cases hu; exact c3
      | 4, hu => cases hu; exact c4
    · obtain ⟨i, hi', rfl⟩ := List.mem_map.1 hx
      exact (hf i (List.mem_range.1 hi')).2
end
theorem own : ownKnob Tryd.prog.godebug = none := by kernel_rfl
theorem laidOut : laidOutB Tryd.prog = true := by kernel_rfl
theorem first_is : Rows.laid_unicode_utf8_first = Lib.firstData := by kernel_rfl
theorem accept_is : Rows.laid_unicode_utf8_acceptRanges (H := Unit) = Lib.acceptData := by kernel_rfl
theorem wf_of {W : World} (h : laidMetH Tryd.prog [("unicode/utf8.acceptRanges", Rows.laid_unicode_utf8_acceptRanges), ("unicode/utf8.first", Rows.laid_unicode_utf8_first)] W) (hs : W.ShapedOpen Tryd.prog) : WF W := by
  have h1 := Lib.laidMet.reads h (.tail _ (.head _))
  have h2 := Lib.laidMet.reads h (.head _)
  rw [first_is] at h1
  rw [accept_is] at h2
  exact ⟨utf8Tabs_of_readsT (U8Types.of196 Tryd.lays196) ⟨by kernel_rfl, by kernel_rfl, by kernel_rfl, by kernel_rfl, by kernel_rfl, by kernel_rfl, by kernel_rfl⟩ h1 h2,
    Go.Proofs.cell_of_shapedOpen_int (zero := #[.int .i64 0]) (t := 3) hs (of_decide_eq_true (by kernel_rfl)) (by kernel_rfl) rfl (by kernel_rfl) (by kernel_rfl) Tryd.underlying3⟩
noncomputable def laidWorld (os : Os) : World :=
  let w0 := World.holding Tryd.prog os ⟨#[], #[], []⟩
  let put (h : Array Obj) (g : Nat) (cs : Array Value) : Array Obj := h.modify g fun
    | .cells _ t frozen => .cells cs t frozen
    | o => o
  let h1 := put w0.heap 0 (Lib.firstTab.map fun z => Value.int .u8 z).toArray
  let h2 := put h1 1 ((List.range 16).flatMap fun i => [Value.int .u8 (Lib.accLo i), Value.int .u8 (Lib.accHi i)]).toArray
  { w0 with heap := h2 }
theorem laid_met (os : Os) (args : Array Value) : laidMet Tryd.prog [("unicode/utf8.acceptRanges", Rows.laid_unicode_utf8_acceptRanges), ("unicode/utf8.first", Rows.laid_unicode_utf8_first)] ((laidWorld os).forCall (fun _ _ => 0) ⟨#[], args, []⟩).memory :=
  (LaidIn.of_run (l := [("unicode/utf8.acceptRanges", Rows.laid_unicode_utf8_acceptRanges), ("unicode/utf8.first", Rows.laid_unicode_utf8_first)]) [1, 0] 8 (by kernel_rfl) (by kernel_rfl) (by kernel_rfl) (by kernel_rfl)).met
end Go.Proofs.YtpnhjipaeggcpaaDoor.X
end
section
namespace Go.Proofs.YtpnhjipaeggcpaaDoor.X
open Go.RowKit
theorem bld_size : (Tryd.prog.info? 54).map (·.size) = some 2 := by kernel_rfl
theorem bld_lies : liesAt Tryd.prog Tryd.prog.depth 54 (2 / Tryd.prog.cellsOf 54) 0 54 1 = true := by kernel_rfl
theorem bld_byte : (Tryd.prog.info? 5).map (fun i => (i.zero, i.size, i.bytes)) = some (some (.int .u8 0), 1, 1) := by kernel_rfl
theorem bld_noescape : Tryd.prog.funcs[81]? = some Tryd.f81 := Tryd.func81
set_option maxHeartbeats 1000000 in
set_option maxRecDepth 100000 in
theorem copyCheck_used (b : Nat) (w : World) (h0 : w.cell? ⟨b, 0, none⟩ = some (.pointer (some ⟨b, 0, none⟩))) :
    Calls Tryd.prog 61 #[.pointer (some ⟨b, 0, none⟩)] w fun e w' => e = .returned (.tuple #[]) ∧ w' = w := by
  obtain ⟨j, hj, _⟩ := Option.map_eq_some_iff.1 bld_size
  go_enter Tryd.func61, Tryd.ntmps61
  go_wp2
  rw [Lib.run_neq_ptr_same w _ Tryd.underlying51 hj]
  go_wp2
  go_end0
  exact ⟨rfl, rfl⟩
set_option maxHeartbeats 1000000 in
set_option maxRecDepth 100000 in
theorem copyCheck_fresh (b : Nat) (w : World) (h0 : w.cell? ⟨b, 0, none⟩ = some (.pointer none)) (hsh : w.shape? b = some (54, 2)) (hfz : w.frozen? ⟨b, 0, none⟩ = false) :
    Calls Tryd.prog 61 #[.pointer (some ⟨b, 0, none⟩)] w fun e w' => e = .returned (.tuple #[]) ∧ w' = w.setCell ⟨b, 0, none⟩ (.pointer (some ⟨b, 0, none⟩)) := by
  obtain ⟨j, hj, hjs⟩ := Option.map_eq_some_iff.1 bld_size
  go_enter Tryd.func61, Tryd.ntmps61
  go_wp2
  rw [Lib.run_to_unsafe w ⟨b, 0, none⟩ Tryd.underlying51 Tryd.underlying79 hj (by rw [hjs]; decide) hsh (Nat.zero_lt_succ 1)]
  simp only [Result.andThen]
  rw [Oper.upon_value]
  go_wp2
  rw [run_callFunc_extern bld_noescape (by kernel_rfl) (by kernel_rfl) (by kernel_rfl) (e := Extern.AbiNoEscape.same) (by kernel_rfl)]
  rw [Lib.run_noEscape]
  simp only [Result.andThen]
  rw [Oper.upon_value]
  go_wp2
  rw [Lib.run_from_unsafe w ⟨b, 0, none⟩ Tryd.underlying79 Tryd.underlying51 hj hsh bld_lies]
  simp only [Result.andThen]
  rw [Oper.upon_value]
  go_wp2
  go_end0
  exact ⟨rfl, rfl⟩
def Bld (B b : Nat) (bs : List Value) (w : World) : Prop := Lib.IsBuilder 54 5 B b bs w
theorem Bld.used {B b : Nat} {bs : List Value} {w : World} (h : Lib.BuilderAt 54 5 B b (.pointer (some ⟨b, 0, none⟩)) bs w) : Bld B b bs w := .inr h
theorem copyCheck_any (B b : Nat) (bs : List Value) (w : World) (h : Bld B b bs w) :
    Calls Tryd.prog 61 #[.pointer (some ⟨b, 0, none⟩)] w fun e w' => e = .returned (.tuple #[]) ∧ (Lib.BuilderAt 54 5 B b (.pointer (some ⟨b, 0, none⟩)) bs w' ∧ Below B w w') := by
  rcases h with h | h
  · refine (copyCheck_fresh b w h.cell0 h.shape h.frozen0).mono ?_
    rintro e w' ⟨rfl, rfl⟩
    exact ⟨rfl, h.used _, (Below.refl B w).setCell (p := ⟨b, 0, none⟩) h.1 _⟩
  · refine (copyCheck_used b w h.cell0).mono ?_
    rintro e w' ⟨rfl, rfl⟩
    exact ⟨rfl, h, Below.refl B _⟩
set_option maxHeartbeats 2000000 in
set_option maxRecDepth 100000 in
theorem writeByte_any (B b : Nat) (bs : List Value) (c : Int) (w : World) (h : Bld B b bs w) (hlen : bs.length + 1 ≤ 140737488355328) (hBw : B ≤ w.heap.size) :
    Calls Tryd.prog 82 #[.pointer (some ⟨b, 0, none⟩), .int .u8 c] w fun e w' => e = .returned .nilIface ∧ (Bld B b (bs ++ [.int .u8 c]) w' ∧ Below B w w') := by
  obtain ⟨i0, hi, hz0, hz1, hz2⟩ := info_parts bld_byte
  have u72 := Tryd.underlying54
  go_enter Tryd.func82, Tryd.ntmps82
  go_wp2_with (go_at_call 61; refine (copyCheck_any B b bs _ h).mono ?_)
  rintro e w1 ⟨rfl, h1, hb1⟩
  obtain ⟨hB, v, hbk, hown, hne⟩ := h1
  have c0 : w1.cell? ⟨b, 0, none⟩ = some (.pointer (some ⟨b, 0, none⟩)) := by rw [Lib.cell_of_heap hbk]; rfl
  have c1 : w1.cell? ⟨b, 1, none⟩ = some v := by rw [Lib.cell_of_heap hbk]; rfl
  go_wp2_with (at_builtin; refine wpList_append_own _ rfl _ _ 52 rfl B 5 i0 (.int .u8 0) 1 1 Tryd.underlying52 hi hz0 hz1 hz2 rfl (by decide) _ _ _ rfl (hown.alloc _) ⟨w1.heap.size, 0, none⟩ 1 1 [.int .u8 c] rfl rfl ?c1 ?c2 ?c3 ?c4 ?c5 ?_)
  case c1 =>
    intro j u hj
    match j, hj with
    | 0, hj => simp at hj; subst hj; simp [Addr.add]
  case c2 => intro u hu; simp at hu; subst hu; rfl
  case c3 => unfold maxLen; omega
  case c4 => omega
  case c5 => have := hb1.size; simp; omega
  intro v' w2 hown' hgrow _
  have hlt : b < w1.heap.size := (Array.getElem?_eq_some_iff.1 hbk).1
  have hb2 : w2.heap[b]? = some (.cells #[.pointer (some ⟨b, 0, none⟩), v] 54 (0, 0)) := by
    rw [hgrow.block b (by simp; omega) (fun e => hne e.symm), Lib.alloc_old w1 _ b hlt]
    exact hbk
  have d0 : w2.cell? ⟨b, 0, none⟩ = some (.pointer (some ⟨b, 0, none⟩)) := by rw [Lib.cell_of_heap hb2]; rfl
  have d1 : w2.cell? ⟨b, 1, none⟩ = some v := by rw [Lib.cell_of_heap hb2]; rfl
  have f1 : w2.frozen? ⟨b, 1, none⟩ = false := Lib.frozen_of_heap hb2 1
  obtain ⟨g, cap, rfl⟩ : ∃ g cap, v' = .slice (some ⟨g, 0, none⟩) (bs.length + 1) cap := by
    rcases hown'.2 with ⟨_, h0⟩ | ⟨g, cap, cur, hv, _⟩
    · omega
    · exact ⟨g, cap, hv⟩
  go_wp2
  go_ret
  refine ⟨rfl, Bld.used ?_, ?_⟩
  · exact Lib.BuilderAt.put (T := 54) (e := 5) hB hb2 (bs' := bs ++ [.int .u8 c]) (by simpa using hown') (by decide)
  · exact ((hb1.alloc (by have := hb1.size; omega) _).grown hgrow (by have := hb1.size; simp; omega) (fun k hk => (hown.lt k hk).1)).setCell (p := ⟨b, 1, none⟩) hB _
set_option maxHeartbeats 2000000 in
set_option maxRecDepth 100000 in
theorem writeString_any (B b : Nat) (bs : List Value) (s : ByteArray) (w : World) (h : Bld B b bs w) (hlen : bs.length + s.size ≤ 140737488355328) (hBw : B ≤ w.heap.size) :
    Calls Tryd.prog 37 #[.pointer (some ⟨b, 0, none⟩), .string s] w fun e w' => e = .returned (.tuple #[.int .i64 s.size, .nilIface]) ∧ (Bld B b (bs ++ Lib.strCells s) w' ∧ Below B w w') := by
  obtain ⟨i0, hi, hz0, hz1, hz2⟩ := info_parts bld_byte
  have u72 := Tryd.underlying54
  go_enter Tryd.func37, Tryd.ntmps37
  go_wp2_with (go_at_call 61; refine (copyCheck_any B b bs _ h).mono ?_)
  rintro e w1 ⟨rfl, h1, hb1⟩
  obtain ⟨hB, v, hbk, hown, hne⟩ := h1
  have c0 : w1.cell? ⟨b, 0, none⟩ = some (.pointer (some ⟨b, 0, none⟩)) := by rw [Lib.cell_of_heap hbk]; rfl
  have c1 : w1.cell? ⟨b, 1, none⟩ = some v := by rw [Lib.cell_of_heap hbk]; rfl
  go_wp2_with (at_builtin; refine Lib.wpList_append_own_string _ rfl _ _ 52 9 rfl B 5 i0 Tryd.underlying52 Tryd.underlying9 hi hz0 hz1 hz2 _ _ _ rfl hown s rfl ?c3 ?c4 ?c5 ?_)
  case c3 => unfold maxLen; omega
  case c4 => omega
  case c5 => have := hb1.size; omega
  intro v' w2 hown' hgrow _
  have hlt : b < w1.heap.size := (Array.getElem?_eq_some_iff.1 hbk).1
  have hb2 : w2.heap[b]? = some (.cells #[.pointer (some ⟨b, 0, none⟩), v] 54 (0, 0)) := by
    rw [hgrow.block b hlt (fun e => hne e.symm)]
    exact hbk
  have d0 : w2.cell? ⟨b, 0, none⟩ = some (.pointer (some ⟨b, 0, none⟩)) := by rw [Lib.cell_of_heap hb2]; rfl
  have d1 : w2.cell? ⟨b, 1, none⟩ = some v := by rw [Lib.cell_of_heap hb2]; rfl
  have f1 : w2.frozen? ⟨b, 1, none⟩ = false := Lib.frozen_of_heap hb2 1
  obtain ⟨ao, n', cap, rfl⟩ : ∃ ao n' cap, v' = .slice ao n' cap := by
    rcases hown'.2 with ⟨hv, _⟩ | ⟨g, cap, cur, hv, _⟩
    · exact ⟨_, _, _, hv⟩
    · exact ⟨_, _, _, hv⟩
  go_wp2
  go_ret2
  refine ⟨rfl, Bld.used ?_, ?_⟩
  · exact Lib.BuilderAt.put (T := 54) (e := 5) hB hb2 (bs' := bs ++ Lib.strCells s) (by simpa [Lib.strCells_length] using hown') (by decide)
  · exact (hb1.grown hgrow (by have := hb1.size; omega) (fun k hk => (hown.lt k hk).1)).setCell (p := ⟨b, 1, none⟩) hB _
theorem string_any (B b : Nat) (l : List UInt8) (w : World) (h : Bld B b (Lib.byteCells l) w) (hBw : B ≤ w.heap.size) :
    Calls Tryd.prog 41 #[.pointer (some ⟨b, 0, none⟩)] w fun e w' => e = .returned (.string ⟨l.toArray⟩) ∧ Below B w w' := Tryd.Builder_String_any B b l w h hBw
theorem Bld.new (w : World) : Bld w.heap.size w.heap.size [] (w.alloc (.cells #[.pointer none, .slice none 0 0] 54)) :=
  .inl ⟨Nat.le_refl _, _, World.alloc_heap_new w _, ⟨rfl, .inl ⟨rfl, rfl⟩⟩, by simp [Value.ownBlock]⟩
end Go.Proofs.YtpnhjipaeggcpaaDoor.X
end
section
namespace Go.Proofs.YtpnhjipaeggcpaaDoor.X
open Go.RowKit Go.Proofs.YtpnhjipaeggcpaaDoorW.PrintWords Go.Proofs.YtpnhjipaeggcpaaDoorW.PrintLast Go.Proofs.YtpnhjipaeggcpaaDoorW.PrintMore
def esc (quote : Bool) (c : UInt8) : List UInt8 :=
  if c = 38 then [38, 97, 109, 112, 59] else if c = 60 then [38, 108, 116, 59] else if c = 62 then [38, 103, 116, 59] else if c = 34 ∧ quote = true then [38, 113, 117, 111, 116, 59] else [c]
def escAll (quote : Bool) : List UInt8 → List UInt8
  | [] => []
  | 194 :: 160 :: r => [38, 110, 98, 115, 112, 59] ++ escAll quote r
  | c :: r => esc quote c ++ escAll quote r
def refs_written.f (a0 : ByteArray) (a1 : Bool) : Option ByteArray := if 6 * a0.size ≤ 140737488355328 then some ⟨(escAll a1 a0.data.toList).toArray⟩ else none
theorem escAll_nbsp (q : Bool) (r : List UInt8) : escAll q (194 :: 160 :: r) = [38, 110, 98, 115, 112, 59] ++ escAll q r := by simp [escAll]
theorem escAll_cons (q : Bool) (c : UInt8) (r : List UInt8) (h : ¬ (c = 194 ∧ ∃ t, r = 160 :: t)) : escAll q (c :: r) = esc q c ++ escAll q r := by
  rw [escAll]
  rintro r' rfl rfl
  exact h ⟨rfl, r', rfl⟩
theorem esc_length (q : Bool) (c : UInt8) : (esc q c).length ≤ 6 := by unfold esc; (repeat' split) <;> simp
theorem byteCells_app (a b : List UInt8) : Lib.byteCells (a ++ b) = Lib.byteCells a ++ Lib.byteCells b := by simp [Lib.byteCells]
def RefsAt (a0 : ByteArray) (q : Bool) (B b : Nat) (w : World) (k : Nat) (wr : World) : Prop :=
  ∃ out : List UInt8, escAll q a0.data.toList = out ++ escAll q (a0.data.toList.drop k) ∧ out.length ≤ 6 * k ∧ Bld B b (Lib.byteCells out) wr ∧ Below B w wr
theorem RefsAt.step {a0 : ByteArray} {q : Bool} {B b : Nat} {w wr w1 : World} {k n : Nat} {out t : List UInt8} (h1 : escAll q a0.data.toList = out ++ escAll q (a0.data.toList.drop k)) (h2 : out.length ≤ 6 * k)
    (he : escAll q (a0.data.toList.drop k) = t ++ escAll q (a0.data.toList.drop (k + n))) (ht : t.length ≤ 6 * n) (hb : Bld B b (Lib.byteCells out ++ Lib.byteCells t) w1) (hB : Below B w wr) (h3 : Below B wr w1) : RefsAt a0 q B b w (k + n) w1 :=
  ⟨out ++ t, by rw [h1, he, List.append_assoc], by rw [List.length_append]; omega, by rw [byteCells_app]; exact hb, hB.trans h3⟩
theorem refs_round (a0 : ByteArray) (k : Nat) (hk : k < a0.size) : ∃ c : UInt8, a0.data.toList.drop k = c :: a0.data.toList.drop (k + 1) ∧ ∀ h : k < a0.size, ((a0[k]'h).toNat : Int) = (c.toNat : Int) :=
  ⟨a0[k], by rw [List.drop_eq_getElem_cons (show k < a0.data.toList.length from hk)]; rfl, fun _ => rfl⟩
theorem u8_of {c : UInt8} {n : Nat} (h : (c.toNat : Int) = n) (hn : n < 256) : c = UInt8.ofNat n := by
  apply UInt8.toNat_inj.1
  rw [UInt8.toNat_ofNat', Nat.mod_eq_of_lt hn]; omega
set_option maxHeartbeats 8000000 in
set_option maxRecDepth 100000 in
theorem refs_written.calls (a0 : ByteArray) (a1 : Bool) (r : ByteArray) (w : World) (h : refs_written.f a0 a1 = some r) :
    Calls Tryd.prog 62 #[.string a0, .bool a1] w fun e w' => e = .returned (.string r) ∧ Below w.heap.size w w' := by
  unfold refs_written.f at h
  split at h
  case isFalse => cases h
  rename_i hsz
  cases h
  have u54 := Tryd.underlying54
  go_enter Tryd.func62, Tryd.ntmps62
  go_wp2
  go_loopw [6] (fun i wr => ∃ k : Nat, i = .int .i64 k ∧ k ≤ a0.size ∧ Aside0 (RefsAt a0 a1 w.heap.size w.heap.size w k wr)) (fun i _ => a0.size - (intOf i).toNat)
  case atStart => exact ⟨0, rfl, Nat.zero_le _, ⟨[], by rw [List.nil_append, List.drop_zero], Nat.zero_le _, Bld.new w, (Below.refl _ w).alloc (Nat.le_refl _) _⟩⟩
  case round =>
    obtain ⟨k, rfl, hk, HR⟩ := hrel
    by_cases hlt : k < a0.size
    · obtain ⟨c, hdr, hx0⟩ := refs_round a0 k hlt
      obtain ⟨n, hn⟩ : ∃ n : Int, (c.toNat : Int) = n := ⟨_, rfl⟩
      have hx : ∀ h : k < a0.size, ((a0[k]'h).toNat : Int) = n := fun h => (hx0 h).trans hn
      have hn0 : 0 ≤ n := by omega
      have hn1 : n ≤ 255 := by have := c.toNat_lt; omega
      have HN := Aside0.mk hn
      have HD := Aside0.mk hdr
      clear hx0 hn hdr
      have hlz : (k : Int) < (a0.size : Int) := by omega
      obtain ⟨out, e1, e2, hb, hB⟩ := HR.out
      have E1 := Aside0.mk e1
      have HB := Aside0.mk hB
      clear e1 hB HR
      have hsz' : w.heap.size ≤ wr.heap.size := HB.out.size
      have hws := fun s hl => writeString_any w.heap.size w.heap.size (Lib.byteCells out) s wr hb hl hsz'
      by_cases h38 : n = 38
      · subst h38
        have hw := hws ⟨#[38, 97, 109, 112, 59]⟩ (by rw [Lib.byteCells_length]; simp [ByteArray.size]; omega)
        clear hws hb
        go_wp2_with (go_at_call 37; refine hw.mono ?_; rintro e w1 ⟨rfl, hb1, hb2⟩)
        go_roundw
        case rel => exact ⟨k + 1, by go_num, by omega, ⟨RefsAt.step E1.out e2 (t := [38, 97, 109, 112, 59]) (by
          obtain rfl := u8_of (n := 38) HN.out (by decide)
          rw [HD.out, escAll_cons _ _ _ (by simp)]; rfl) (by simp) hb1 HB.out hb2⟩⟩
        case measure => simp [intOf]; omega
      have b38 : (n == 38) = false := beq_eq_false_iff_ne.mpr h38
      by_cases h60 : n = 60
      · subst h60
        have hw := hws ⟨#[38, 108, 116, 59]⟩ (by rw [Lib.byteCells_length]; simp [ByteArray.size]; omega)
        clear hws hb
        go_wp2_with (go_at_call 37; refine hw.mono ?_; rintro e w1 ⟨rfl, hb1, hb2⟩)
        go_roundw
        case rel => exact ⟨k + 1, by go_num, by omega, ⟨RefsAt.step E1.out e2 (t := [38, 108, 116, 59]) (by
          obtain rfl := u8_of (n := 60) HN.out (by decide)
          rw [HD.out, escAll_cons _ _ _ (by simp)]; rfl) (by simp) hb1 HB.out hb2⟩⟩
        case measure => simp [intOf]; omega
      have b60 : (n == 60) = false := beq_eq_false_iff_ne.mpr h60
      by_cases h62 : n = 62
      · subst h62
        have hw := hws ⟨#[38, 103, 116, 59]⟩ (by rw [Lib.byteCells_length]; simp [ByteArray.size]; omega)
        clear hws hb
        go_wp2_with (go_at_call 37; refine hw.mono ?_; rintro e w1 ⟨rfl, hb1, hb2⟩)
        go_roundw
        case rel => exact ⟨k + 1, by go_num, by omega, ⟨RefsAt.step E1.out e2 (t := [38, 103, 116, 59]) (by
          obtain rfl := u8_of (n := 62) HN.out (by decide)
          rw [HD.out, escAll_cons _ _ _ (by simp)]; rfl) (by simp) hb1 HB.out hb2⟩⟩
        case measure => simp [intOf]; omega
      have b62 : (n == 62) = false := beq_eq_false_iff_ne.mpr h62
      by_cases h34 : n = 34 ∧ a1 = true
      · obtain ⟨h34, rfl⟩ := h34
        subst h34
        have hw := hws ⟨#[38, 113, 117, 111, 116, 59]⟩ (by rw [Lib.byteCells_length]; simp [ByteArray.size]; omega)
        clear hws hb
        go_wp2_with (go_at_call 37; refine hw.mono ?_; rintro e w1 ⟨rfl, hb1, hb2⟩)
        go_roundw
        case rel => exact ⟨k + 1, by go_num, by omega, ⟨RefsAt.step E1.out e2 (t := [38, 113, 117, 111, 116, 59]) (by
          obtain rfl := u8_of (n := 34) HN.out (by decide)
          rw [HD.out, escAll_cons _ _ _ (by simp)]; rfl) (by simp) hb1 HB.out hb2⟩⟩
        case measure => simp [intOf]; omega
      have hesc : esc a1 c = [c] := by
        have hn := HN.out
        unfold esc
        rw [if_neg, if_neg, if_neg, if_neg]
        · rintro ⟨rfl, hq⟩; exact h34 ⟨by rw [← hn]; rfl, hq⟩
        · rintro rfl; exact h62 (by rw [← hn]; rfl)
        · rintro rfl; exact h60 (by rw [← hn]; rfl)
        · rintro rfl; exact h38 (by rw [← hn]; rfl)
      have HE := Aside0.mk hesc
      have H34 := Aside0.mk h34
      clear hesc h34 h38 h60 h62
      have hpc := Tryd.strings_HasPrefix (a0.extract k a0.size) ⟨#[194, 160]⟩ wr
      rw [Lib.extract_to_end] at hpc
      have hcase : (n = 34 ∧ a1 = false) ∨ (n == 34) = false := by
        by_cases h : n = 34
        · left
          refine ⟨h, ?_⟩
          cases ha : a1 with
          | false => rfl
          | true => exact absurd ⟨h, ha⟩ H34.out
        · exact .inr (beq_eq_false_iff_ne.mpr h)
      cases hp : Lib.hasPrefix (a0.data.toList.drop k) (⟨#[194, 160]⟩ : ByteArray).data.toList with
      | true =>
        rw [hp] at hpc
        have HP := Aside0.mk hp
        clear hp
        have hw := hws ⟨#[38, 110, 98, 115, 112, 59]⟩ (by rw [Lib.byteCells_length]; simp [ByteArray.size]; omega)
        clear hws hb
        have hpf : ∃ r, a0.data.toList.drop k = 194 :: 160 :: r ∧ a0.data.toList.drop (k + 2) = r := by
          have h1 : (194 :: 160 :: []) <+: a0.data.toList.drop k := by simpa [Lib.hasPrefix] using HP.out
          obtain ⟨r, hr⟩ := h1
          refine ⟨r, hr.symm, ?_⟩
          rw [← List.drop_drop, ← hr]; rfl
        obtain ⟨r, hr1, hr2⟩ := hpf
        have hk2 : k + 2 ≤ a0.size := by
          have := congrArg List.length hr1
          have e3 : a0.data.toList.length = a0.size := rfl
          rw [List.length_drop, e3] at this
          simp only [List.length_cons] at this
          omega
        have HR1 := Aside0.mk hr1
        have HR2 := Aside0.mk hr2
        clear hr1 hr2
        rcases hcase with ⟨hn34, rfl⟩ | b34
        all_goals (try subst hn34)
        all_goals
          go_wp2_with (first | (go_at_call 52; refine hpc.mono ?_; rintro e w' ⟨rfl, rfl⟩) | (go_at_call 37; refine hw.mono ?_; rintro e w1 ⟨rfl, hb1, hb2⟩))
          go_roundw
          case rel => exact ⟨k + 2, by go_num, by omega, ⟨RefsAt.step E1.out e2 (n := 2) (t := [38, 110, 98, 115, 112, 59]) (by
            rw [HR1.out, HR2.out]; exact escAll_nbsp _ _) (by simp) hb1 HB.out hb2⟩⟩
          case measure => simp [intOf]; omega
      | false =>
        rw [hp] at hpc
        have HP := Aside0.mk hp
        clear hp hws
        have hw := writeByte_any w.heap.size w.heap.size (Lib.byteCells out) n wr hb (by rw [Lib.byteCells_length]; omega) hsz'
        clear hb
        rcases hcase with ⟨hn34, rfl⟩ | b34
        all_goals (try subst hn34)
        all_goals
          go_wp2_with (first | (go_at_call 52; refine hpc.mono ?_; rintro e w' ⟨rfl, rfl⟩) | (go_at_call 82; refine hw.mono ?_; rintro e w1 ⟨rfl, hb1, hb2⟩))
          go_roundw
          case rel => exact ⟨k + 1, by go_num, by omega, ⟨RefsAt.step E1.out e2 (t := [c]) (by
            rw [HD.out, escAll_cons _ _ _ (by
              rintro ⟨rfl, r, hr⟩
              have h1 := HP.out
              rw [HD.out, hr] at h1
              have h2 : Lib.hasPrefix (194 :: 160 :: r) (⟨#[194, 160]⟩ : ByteArray).data.toList = true := rfl
              rw [h2] at h1
              cases h1), HE.out]) (by simp) (by simpa [Lib.byteCells, HN.out] using hb1) HB.out hb2⟩⟩
          case measure => simp [intOf]; omega
    · obtain rfl : k = a0.size := by omega
      obtain ⟨out, e1, e2, hb, hB⟩ := HR.out
      rw [show a0.data.toList.drop a0.size = [] from List.drop_eq_nil_of_le (Nat.le_of_eq rfl)] at e1
      have E1 := Aside0.mk e1
      have HB := Aside0.mk hB
      clear e1 hB HR
      have hs := string_any w.heap.size w.heap.size out wr hb HB.out.size
      clear hb
      go_wp2_with (go_at_call 41; refine hs.mono ?_; rintro e w1 ⟨rfl, hb⟩)
      go_ret
      have e3 := E1.out
      rw [show escAll a1 [] = [] from rfl, List.append_nil] at e3
      exact ⟨by rw [e3]; rfl, HB.out.trans hb⟩
end Go.Proofs.YtpnhjipaeggcpaaDoor.X
end
section
namespace Go.Proofs.YtpnhjipaeggcpaaDoor.X
open Go.RowKit Go.Proofs.YtpnhjipaeggcpaaDoorW.PrintWords Go.Proofs.YtpnhjipaeggcpaaDoorW.PrintLast Go.Proofs.YtpnhjipaeggcpaaDoorW.PrintMore
attribute [local go_sem] max2_int min2_int max_two min_two max_three min_three max_four min_four
def refs_Value.f (a0 : ByteArray) : Option (ByteArray) := (refs_written.f a0 true).bind fun t465 => (some t465)
set_option maxHeartbeats 8000000 in
set_option maxRecDepth 100000 in
theorem refs_Value.calls (a0 : ByteArray) (r : ByteArray) (w : World) (h : refs_Value.f a0 = some r) :
  Calls Tryd.prog 63 #[.string a0] w fun e w' => e = .returned (.string r) ∧ Below w.heap.size w w' := by
 have HB := Aside0.mk (Below.refl w.heap.size w)
 have H : ((refs_written.f a0 true).bind fun t465 => (some t465)) = some r := h
 clear h
 replace H := Option.bind_eq_some_iff.mp H
 obtain ⟨t465, A20, H⟩ := H
 have A2 := Aside0.mk A20
 clear A20
 obtain rfl := Option.some.inj H
 go_enter Tryd.func63, Tryd.ntmps63
 go_wp2_with (first | ((with_reducible refine gate_callee (f := 62) rfl ?_); refine goesL_ (some 4) rfl rfl Tryd.func62 (by kernel_rfl) rfl #[.string a0, .bool true] rfl y14_ ?_; (with_reducible refine (refs_written.calls a0 true t465 _ A2.out).mono ?_); rintro e w3 ⟨rfl, hb⟩; refine ⟨_, rfl, ?_⟩; have n0_ := Aside0.mk (below_step y13_ hb); clear HB; have HB := n0_; clear n0_; (try clear hb); (try clear hb2); (try clear hk); (try clear hi)))
 go_ret
 exact ⟨y11_, y13_⟩
end Go.Proofs.YtpnhjipaeggcpaaDoor.X
end
section
namespace Go.Proofs.YtpnhjipaeggcpaaDoor.X
open Go.RowKit Go.Proofs.YtpnhjipaeggcpaaDoorW.PrintWords Go.Proofs.YtpnhjipaeggcpaaDoorW.PrintLast Go.Proofs.YtpnhjipaeggcpaaDoorW.PrintMore
attribute [local go_sem] max2_int min2_int max_two min_two max_three min_three max_four min_four
def write_opened.l0 : Nat → ByteArray → List (S41) → Int → Int → Option (ByteArray)
 | 0, _, _, _, _ => none
 | k + 1, x3, x10, x11, x12 => if x12 < x11 then (if 0 ≤ x12 then (if x12 < (x10.length : Int) then (if 1 + ((rd_T41 x10 x12).f0).size ≤ 9223372036854775807 then (if ((⟨#[32]⟩ : ByteArray) ++ ((rd_T41 x10 x12).f0)).size + 2 ≤ 9223372036854775807 then ((refs_Value.f ((rd_T41 x10 x12).f1)).bind fun t469 => (if (((⟨#[32]⟩ : ByteArray) ++ ((rd_T41 x10 x12).f0)) ++ (⟨#[61, 34]⟩ : ByteArray)).size + t469.size ≤ 9223372036854775807 then (if ((((⟨#[32]⟩ : ByteArray) ++ ((rd_T41 x10 x12).f0)) ++ (⟨#[61, 34]⟩ : ByteArray)) ++ t469).size + 1 ≤ 9223372036854775807 then (if x3.size + (((((⟨#[32]⟩ : ByteArray) ++ ((rd_T41 x10 x12).f0)) ++ (⟨#[61, 34]⟩ : ByteArray)) ++ t469) ++ (⟨#[34]⟩ : ByteArray)).size ≤ 9223372036854775807 then (write_opened.l0 k (x3 ++ (((((⟨#[32]⟩ : ByteArray) ++ ((rd_T41 x10 x12).f0)) ++ (⟨#[61, 34]⟩ : ByteArray)) ++ t469) ++ (⟨#[34]⟩ : ByteArray))) x10 x11 (wrap64 (x12 + 1))) else (none)) else (none)) else (none))) else (none)) else (none)) else (none)) else (none)) else (if x3.size + 1 ≤ 9223372036854775807 then (some (x3 ++ (⟨#[62]⟩ : ByteArray))) else (none))
def write_opened.f (k : Nat) (a0_0 : Int) (a0_1 : Int) (a0_2 : ByteArray) (a0_3 : ByteArray) (l0_4 : List (S41)) : Option (ByteArray) := if 1 + a0_2.size ≤ 9223372036854775807 then (write_opened.l0 k ((⟨#[60]⟩ : ByteArray) ++ a0_2) l0_4 (l0_4.length : Int) 0) else (none)
def write_opened.T5 : Bool × List (List Nat × List Nat) := (true, [([], []), ([], []), ([1], [1]), ([2], [2]), ([3], [3]), ([], []), ([5], [5]), ([6], [6]), ([4, 7], [4, 7]), ([8], [8]), ([0, 9], [0, 9]), ([10, 7, 0, 1, 2, 3, 4, 5, 6, 7, 8, 9, 10], [0, 10])])
def write_opened.B5 : List Nat := [0, 0, 2, 6, 14, 0, 32, 96, 254, 510, 1023, 2047]
theorem write_opened.tab5 : rtab .any (opsOf Tryd.f39 5) = write_opened.T5 := by kernel_rfl
theorem write_opened.bits5 : waitsOk write_opened.T5.2 write_opened.B5 = true := by kernel_rfl
set_option maxHeartbeats 8000000 in
set_option maxRecDepth 100000 in
theorem write_opened.calls (k : Nat) (a0_0 : Int) (a0_1 : Int) (a0_2 : ByteArray) (a0_3 : ByteArray) (A0_4 : Option Addr) (c0_4 : Nat) (l0_4 : List (S41)) (r : ByteArray) (w : World) (hr0_4 : Kd.C k41 w A0_4 l0_4.length l0_4) (hc0_4 : l0_4.length ≤ c0_4) (h : write_opened.f k a0_0 a0_1 a0_2 a0_3 l0_4 = some r) :
  Calls Tryd.prog 39 #[.agg #[.int .i64 a0_0, .int .i64 a0_1, .string a0_2, .string a0_3, .slice A0_4 l0_4.length c0_4]] w fun e w' => e = .returned (.string r) ∧ Below w.heap.size w w' := by
 have hu35 := Tryd.underlying35
 have hu41 := Tryd.underlying41
 have HR0_4 := Aside0.mk hr0_4
 have HC0_4 := Aside0.mk hc0_4
 clear hr0_4 hc0_4
 have HB := Aside0.mk (Below.refl w.heap.size w)
 have H : (if 1 + a0_2.size ≤ 9223372036854775807 then (write_opened.l0 k ((⟨#[60]⟩ : ByteArray) ++ a0_2) l0_4 (l0_4.length : Int) 0) else (none)) = some r := h
 clear h
 by_cases c2 : 1 + a0_2.size ≤ 9223372036854775807
 rotate_left
 ·rw [if_neg c2] at H
  exact absurd H (by simp)
 rw [if_pos c2] at H
 have c2b0 := eq_true c2
 have c2b1 : decide (1 + a0_2.size ≤ 9223372036854775807) = true := decide_eq_true c2
 try have c2b2 : (9223372036854775807 < 1 + a0_2.size) = False := eq_false (Nat.not_lt.2 c2)
 have H' := Aside0.mk H
 clear H
 go_enter Tryd.func39, Tryd.ntmps39
 go_wp2_with (first | ((with_reducible refine gate_dst (N := 1) rfl ?_); refine box_event ?hg (N := 1) ?hd (cs := #[.int .i64 a0_0, .int .i64 a0_1, .string a0_2, .string a0_3, .slice A0_4 l0_4.length c0_4]) (t := 35) ?hr ?_; (case hd => rfl); (case hg => rfl); (case hr => first | (go_simp; done) | (go_simp; rfl)); intro gb466 hg w3 hbox hb; have n0_ := Aside0.mk (below_step y13_ hb); have n1_ := Aside0.mk (hbox); have n2_ := Aside0.mk ((by rw [hg]; exact (below_size y13_) : w.heap.size ≤ gb466)); have n3_ := Aside0.mk ((by rw [hg]; exact (below_size y13_) : w.heap.size ≤ gb466)); clear HB; have HB := n0_; have BK466 := n1_; have GW466 := n2_; have GE466 := n3_; clear n0_ n1_ n2_ n3_; clear hb hbox hg; have hcz4_0 : w3.cell? ⟨gb466, 0, none⟩ = some (.int .i64 a0_0) := (blk_cell BK466.out 0).trans rfl; have hcz4_1 : w3.cell? ⟨gb466, 1, none⟩ = some (.int .i64 a0_1) := (blk_cell BK466.out 1).trans rfl; have hcz4_2 : w3.cell? ⟨gb466, 2, none⟩ = some (.string a0_2) := (blk_cell BK466.out 2).trans rfl; have hcz4_3 : w3.cell? ⟨gb466, 3, none⟩ = some (.string a0_3) := (blk_cell BK466.out 3).trans rfl; have hcz4_4 : w3.cell? ⟨gb466, 4, none⟩ = some (.slice A0_4 l0_4.length c0_4) := (blk_cell BK466.out 4).trans rfl; have hfz4_0 := blk_frozen BK466.out 0; have hfz4_1 := blk_frozen BK466.out 1; have hfz4_2 := blk_frozen BK466.out 2; have hfz4_3 := blk_frozen BK466.out 3; have hfz4_4 := blk_frozen BK466.out 4))
 go_loopg [3, 12] k (fun kq v3 v12 w' => ∃ (x3_1 : ByteArray) (x12_1 : Int), v3 = .string x3_1 ∧ v12 = .int .i64 x12_1 ∧ Aside0 (write_opened.l0 kq x3_1 l0_4 (l0_4.length : Int) x12_1 = some r) ∧ Aside0 (kq ≤ k) ∧ Aside0 (w'.heap[gb466]? = some (.cells #[.int .i64 a0_0, .int .i64 a0_1, .string a0_2, .string a0_3, (.slice A0_4 l0_4.length c0_4)] 35 (0, 0))) ∧ Aside0 (Below w.heap.size w w'))
 case atStart => exact ⟨((⟨#[60]⟩ : ByteArray) ++ a0_2), (0), y4_, y4_, H', ⟨Nat.le_refl _⟩, ⟨by (with_reducible repeat (first | refine blk_drewN ?_ _ | refine blk_drew ?_ | refine blk_alloc ?_ _)); exact BK466.out⟩, ⟨(y17_ GE466.out)⟩⟩
 case round =>
  clear H'
  try clear c2
  try clear c2b0
  try clear c2b1
  try clear c2b2
  try clear p2
  try clear c3
  try clear hcz4_0
  try clear hcz4_1
  try clear hcz4_2
  try clear hcz4_3
  try clear hcz4_4
  try clear hfz4_0
  try clear hfz4_1
  try clear hfz4_2
  try clear hfz4_3
  try clear hfz4_4
  obtain ⟨x3_1, x12_1, rfl, rfl, HA, HK1, BK466, HB⟩ := hrel
  cases gk with
  | zero => exact absurd HA.out (by simp [write_opened.l0])
  | succ k1 =>
   have H := HA.out
   clear HA
   simp only [write_opened.l0] at H
   by_cases c5 : x12_1 < (l0_4.length : Int)
   ·rw [if_pos c5] at H
    have c5b0 : decide (x12_1 < (l0_4.length : Int)) = true := decide_eq_true c5
    clear c5
    by_cases c6 : 0 ≤ x12_1
    rotate_left
    ·rw [if_neg c6] at H
     exact absurd H (by simp)
    rw [if_pos c6] at H
    have c6b0 : decide (0 ≤ x12_1) = true := decide_eq_true c6
    clear c6
    by_cases c7 : x12_1 < (l0_4.length : Int)
    rotate_left
    ·rw [if_neg c7] at H
     exact absurd H (by simp)
    rw [if_pos c7] at H
    have c7b0 : decide (x12_1 < (l0_4.length : Int)) = true := decide_eq_true c7
    clear c7
    by_cases c8 : 1 + ((rd_T41 l0_4 x12_1).f0).size ≤ 9223372036854775807
    rotate_left
    ·rw [if_neg c8] at H
     exact absurd H (by simp)
    rw [if_pos c8] at H
    have c8b0 := eq_true c8
    have c8b1 : decide (1 + ((rd_T41 l0_4 x12_1).f0).size ≤ 9223372036854775807) = true := decide_eq_true c8
    try have c8b2 : (9223372036854775807 < 1 + ((rd_T41 l0_4 x12_1).f0).size) = False := eq_false (Nat.not_lt.2 c8)
    by_cases c9 : ((⟨#[32]⟩ : ByteArray) ++ ((rd_T41 l0_4 x12_1).f0)).size + 2 ≤ 9223372036854775807
    rotate_left
    ·rw [if_neg c9] at H
     exact absurd H (by simp)
    rw [if_pos c9] at H
    have c9b0 := eq_true c9
    have c9b1 : decide (((⟨#[32]⟩ : ByteArray) ++ ((rd_T41 l0_4 x12_1).f0)).size + 2 ≤ 9223372036854775807) = true := decide_eq_true c9
    try have c9b2 : (9223372036854775807 < ((⟨#[32]⟩ : ByteArray) ++ ((rd_T41 l0_4 x12_1).f0)).size + 2) = False := eq_false (Nat.not_lt.2 c9)
    try (have c9p_ := c9b2; simp only [ByteArray.size_append, lit_size, List.length_cons, List.length_nil, Nat.reduceAdd, Nat.zero_add] at c9p_)
    replace H := Option.bind_eq_some_iff.mp H
    obtain ⟨t469, A100, H⟩ := H
    have A10 := Aside0.mk A100
    clear A100
    by_cases c11 : (((⟨#[32]⟩ : ByteArray) ++ ((rd_T41 l0_4 x12_1).f0)) ++ (⟨#[61, 34]⟩ : ByteArray)).size + t469.size ≤ 9223372036854775807
    rotate_left
    ·rw [if_neg c11] at H
     exact absurd H (by simp)
    rw [if_pos c11] at H
    have c11b0 := eq_true c11
    have c11b1 : decide ((((⟨#[32]⟩ : ByteArray) ++ ((rd_T41 l0_4 x12_1).f0)) ++ (⟨#[61, 34]⟩ : ByteArray)).size + t469.size ≤ 9223372036854775807) = true := decide_eq_true c11
    try have c11b2 : (9223372036854775807 < (((⟨#[32]⟩ : ByteArray) ++ ((rd_T41 l0_4 x12_1).f0)) ++ (⟨#[61, 34]⟩ : ByteArray)).size + t469.size) = False := eq_false (Nat.not_lt.2 c11)
    try (have c11p_ := c11b2; simp only [ByteArray.size_append, lit_size, List.length_cons, List.length_nil, Nat.reduceAdd, Nat.zero_add] at c11p_)
    by_cases c12 : ((((⟨#[32]⟩ : ByteArray) ++ ((rd_T41 l0_4 x12_1).f0)) ++ (⟨#[61, 34]⟩ : ByteArray)) ++ t469).size + 1 ≤ 9223372036854775807
    rotate_left
    ·rw [if_neg c12] at H
     exact absurd H (by simp)
    rw [if_pos c12] at H
    have c12b0 := eq_true c12
    have c12b1 : decide (((((⟨#[32]⟩ : ByteArray) ++ ((rd_T41 l0_4 x12_1).f0)) ++ (⟨#[61, 34]⟩ : ByteArray)) ++ t469).size + 1 ≤ 9223372036854775807) = true := decide_eq_true c12
    try have c12b2 : (9223372036854775807 < ((((⟨#[32]⟩ : ByteArray) ++ ((rd_T41 l0_4 x12_1).f0)) ++ (⟨#[61, 34]⟩ : ByteArray)) ++ t469).size + 1) = False := eq_false (Nat.not_lt.2 c12)
    try (have c12p_ := c12b2; simp only [ByteArray.size_append, lit_size, List.length_cons, List.length_nil, Nat.reduceAdd, Nat.zero_add] at c12p_)
    by_cases c13 : x3_1.size + (((((⟨#[32]⟩ : ByteArray) ++ ((rd_T41 l0_4 x12_1).f0)) ++ (⟨#[61, 34]⟩ : ByteArray)) ++ t469) ++ (⟨#[34]⟩ : ByteArray)).size ≤ 9223372036854775807
    rotate_left
    ·rw [if_neg c13] at H
     exact absurd H (by simp)
    rw [if_pos c13] at H
    have c13b0 := eq_true c13
    have c13b1 : decide (x3_1.size + (((((⟨#[32]⟩ : ByteArray) ++ ((rd_T41 l0_4 x12_1).f0)) ++ (⟨#[61, 34]⟩ : ByteArray)) ++ t469) ++ (⟨#[34]⟩ : ByteArray)).size ≤ 9223372036854775807) = true := decide_eq_true c13
    try have c13b2 : (9223372036854775807 < x3_1.size + (((((⟨#[32]⟩ : ByteArray) ++ ((rd_T41 l0_4 x12_1).f0)) ++ (⟨#[61, 34]⟩ : ByteArray)) ++ t469) ++ (⟨#[34]⟩ : ByteArray)).size) = False := eq_false (Nat.not_lt.2 c13)
    try (have c13p_ := c13b2; simp only [ByteArray.size_append, lit_size, List.length_cons, List.length_nil, Nat.reduceAdd, Nat.zero_add] at c13p_)
    have H' := Aside0.mk H
    clear H
    have p467 : 0 ≤ (x12_1 : Int) := of_decide_eq_true y2_
    have q467 : x12_1 < (l0_4.length : Int) := of_decide_eq_true y2_
    obtain ⟨ad467, e467, hx467_0, hx467_1⟩ := at_T41 HR0_4.out x12_1 p467 q467
    cases e467
    replace hx467_0 := (HB.out.cell (World.block_lt_of_cell? w _ hx467_0)).trans hx467_0
    replace hx467_1 := (HB.out.cell (World.block_lt_of_cell? w _ hx467_1)).trans hx467_1
    replace p467 := eq_true p467
    replace q467 := eq_true q467
    try go_wp2_with (first | ((with_reducible refine gate_dst (N := 5) rfl ?_); refine box_event ?hg (N := 5) ?hd (cs := #[.string (⟨#[]⟩ : ByteArray), .string (⟨#[]⟩ : ByteArray)]) (t := 41) ?hr ?_; (case hd => rfl); (case hg => rfl); (case hr => first | (go_simp; done) | (go_simp; rfl)); intro gb468 hg w14 hbox hb; have n0_ := Aside0.mk (blk_below (g := gb466) (o := .cells #[.int .i64 a0_0, .int .i64 a0_1, .string a0_2, .string a0_3, .slice (some ad467) l0_4.length c0_4] 35 (0, 0)) (y10_ BK466.out) hb); have n1_ := Aside0.mk (below_step (y17_ GE466.out) hb); have n2_ := Aside0.mk (hbox); have n3_ := Aside0.mk ((by rw [hg]; exact (below_size (y17_ GE466.out)) : w.heap.size ≤ gb468)); have n4_ := Aside0.mk ((by rw [hg]; exact (below_size (y17_ GE466.out)) : w.heap.size ≤ gb468)); have n5_ := Aside0.mk ((by rw [hg]; exact Nat.ne_of_lt (blk_lt (g := gb466) (o := .cells #[.int .i64 a0_0, .int .i64 a0_1, .string a0_2, .string a0_3, .slice (some ad467) l0_4.length c0_4] 35 (0, 0)) (y10_ BK466.out)) : gb466 ≠ gb468)); have n6_ := Aside0.mk ((by rw [hg]; exact Nat.ne_of_gt (blk_lt (g := gb466) (o := .cells #[.int .i64 a0_0, .int .i64 a0_1, .string a0_2, .string a0_3, .slice (some ad467) l0_4.length c0_4] 35 (0, 0)) (y10_ BK466.out)) : gb468 ≠ gb466)); clear BK466; clear HB; have BK466 := n0_; have HB := n1_; have BK468 := n2_; have GW468 := n3_; have GE468 := n4_; have NB466_468 := n5_; have NB468_466 := n6_; clear n0_ n1_ n2_ n3_ n4_ n5_ n6_; clear hb hbox hg; have hnb15 := NB468_466.out; have hnc15 := NB466_468.out; have hcz16_0 : w14.cell? ⟨gb468, 0, none⟩ = some (.string (⟨#[]⟩ : ByteArray)) := (blk_cell BK468.out 0).trans rfl; have hcz16_1 : w14.cell? ⟨gb468, 1, none⟩ = some (.string (⟨#[]⟩ : ByteArray)) := (blk_cell BK468.out 1).trans rfl; have hfz16_0 := blk_frozen BK468.out 0; have hfz16_1 := blk_frozen BK468.out 1))
    have n0_ : Aside0 (((w14.setCell ⟨gb468, 0, none⟩ (.string ((rd_T41 l0_4 x12_1).f0))).setCell ⟨gb468, 1, none⟩ (.string ((rd_T41 l0_4 x12_1).f1))).heap[gb466]? = some (.cells #[.int .i64 a0_0, .int .i64 a0_1, .string a0_2, .string a0_3, .slice (some ad467) l0_4.length c0_4] 35 (0, 0))) := ⟨by (with_reducible repeat (first | refine blk_drewN ?_ _ | refine blk_drew ?_ | refine blk_alloc ?_ _)); refine blk_far ?_ NB466_468.out _; (with_reducible repeat (first | refine blk_drewN ?_ _ | refine blk_drew ?_ | refine blk_alloc ?_ _)); refine blk_far ?_ NB466_468.out _; (with_reducible repeat (first | refine blk_drewN ?_ _ | refine blk_drew ?_ | refine blk_alloc ?_ _)); exact BK466.out⟩
    have n1_ : Aside0 (((w14.setCell ⟨gb468, 0, none⟩ (.string ((rd_T41 l0_4 x12_1).f0))).setCell ⟨gb468, 1, none⟩ (.string ((rd_T41 l0_4 x12_1).f1))).heap[gb468]? = some (.cells #[.string ((rd_T41 l0_4 x12_1).f0), .string ((rd_T41 l0_4 x12_1).f1)] 41 (0, 0))) := ⟨by (with_reducible repeat (first | refine blk_drewN ?_ _ | refine blk_drew ?_ | refine blk_alloc ?_ _)); refine blk_put (cs := #[.string ((rd_T41 l0_4 x12_1).f0), .string (⟨#[]⟩ : ByteArray)]) ?_ 1 _ rfl; (with_reducible repeat (first | refine blk_drewN ?_ _ | refine blk_drew ?_ | refine blk_alloc ?_ _)); refine blk_put (cs := #[.string (⟨#[]⟩ : ByteArray), .string (⟨#[]⟩ : ByteArray)]) ?_ 0 _ rfl; (with_reducible repeat (first | refine blk_drewN ?_ _ | refine blk_drew ?_ | refine blk_alloc ?_ _)); exact BK468.out⟩
    have n2_ : Aside0 (Below w.heap.size w ((w14.setCell ⟨gb468, 0, none⟩ (.string ((rd_T41 l0_4 x12_1).f0))).setCell ⟨gb468, 1, none⟩ (.string ((rd_T41 l0_4 x12_1).f1)))) := ⟨(y19_ GE466.out GE468.out)⟩
    (try clear BK466)
    (try clear BK468)
    (try clear HB)
    generalize ((w14.setCell ⟨gb468, 0, none⟩ (.string ((rd_T41 l0_4 x12_1).f0))).setCell ⟨gb468, 1, none⟩ (.string ((rd_T41 l0_4 x12_1).f1))) = w17 at n0_ n1_ n2_ ⊢
    have BK466 := n0_
    have BK468 := n1_
    have HB := n2_
    clear n0_ n1_ n2_
    have n0_ := Aside0.mk (blk_drew BK466.out)
    have n1_ := Aside0.mk (blk_drew BK468.out)
    have n2_ := Aside0.mk (below_drew1 HB.out)
    clear BK466
    clear BK468
    clear HB
    have BK466 := n0_
    have BK468 := n1_
    have HB := n2_
    clear n0_ n1_ n2_
    refine start_ (n := 12) (S := fun w' => w'.cell? ⟨gb468, 0, none⟩ = some (.string ((rd_T41 l0_4 x12_1).f0)) ∧ w'.cell? ⟨gb468, 1, none⟩ = some (.string ((rd_T41 l0_4 x12_1).f1))) (ds := []) #[false, false, false, false, false, false, false, false, false, false, false, false] (by kernel_rfl) rfl rfl ⟨(blk_cell BK468.out 0).trans rfl, (blk_cell BK468.out 1).trans rfl⟩ (fun hHeld => ?_); refine with_tabW write_opened.tab5 write_opened.bits5 (fun HT_ HW_ => ?_)
    generalize w17.drew = w18 at BK466 BK468 HB hHeld ⊢
    refine pure_ (i := 0) (N := some 16) (v := ?_) (a' := ?_) #[true, false, false, false, false, false, false, false, false, false, false, false] rfl rfl (any_of HT_.out (by kernel_rfl)) (fun _ _ _ h => h) (Or.inl ⟨by rfl, ?_⟩) ?_ ?_
    rotate_left
    ·intro w'
     go_simp
     with_reducible rfl
    rotate_left
    ·simp only [Act.put, List.setIfInBounds_toArray, List.set_cons_zero, List.set_cons_succ, i64_w, i32_w]
     rfl
    refine pure_ (i := 1) (N := some 17) (v := ?_) (a' := ?_) #[true, true, false, false, false, false, false, false, false, false, false, false] rfl rfl (any_of HT_.out (by kernel_rfl)) (fun _ _ _ h => h) (Or.inl ⟨by rfl, ?_⟩) ?_ ?_
    rotate_left
    ·intro w'
     go_simp
     with_reducible rfl
    rotate_left
    ·simp only [Act.put, List.setIfInBounds_toArray, List.set_cons_zero, List.set_cons_succ, i64_w, i32_w]
     rfl
    refine pure_ (i := 5) (N := some 21) (v := ?_) (a' := ?_) #[true, true, false, false, false, true, false, false, false, false, false, false] rfl rfl (any_of HT_.out (by kernel_rfl)) (fun _ _ _ h => h) (Or.inl ⟨by rfl, ?_⟩) ?_ ?_
    rotate_left
    ·intro w'
     go_simp
     with_reducible rfl
    rotate_left
    ·simp only [Act.put, List.setIfInBounds_toArray, List.set_cons_zero, List.set_cons_succ, i64_w, i32_w]
     rfl
    refine take_ (i := 2) (N := some 18) (v := ?_) (a' := ?_) #[true, true, true, false, false, true, false, false, false, false, false, false] rfl rfl (take_ofW HT_.out HW_.out (by kernel_rfl)) (fun _ _ _ h => h) (Or.inl ⟨by rfl, ?_⟩) hHeld ?_ ?_
    rotate_left
    ·rintro w' ⟨s0, s1⟩
     go_simp
     with_reducible rfl
    rotate_left
    ·simp only [Act.put, List.setIfInBounds_toArray, List.set_cons_zero, List.set_cons_succ, i64_w, i32_w]
     rfl
    refine pure_ (i := 3) (N := some 19) (v := ?_) (a' := ?_) #[true, true, true, true, false, true, false, false, false, false, false, false] rfl rfl (any_of HT_.out (by kernel_rfl)) (fun _ _ _ h => h) (Or.inl ⟨by rfl, ?_⟩) ?_ ?_
    rotate_left
    ·intro w'
     go_simp
     with_reducible rfl
    rotate_left
    ·simp only [Act.put, List.setIfInBounds_toArray, List.set_cons_zero, List.set_cons_succ, i64_w, i32_w]
     rfl
    refine pure_ (i := 4) (N := some 20) (v := ?_) (a' := ?_) #[true, true, true, true, true, true, false, false, false, false, false, false] rfl rfl (any_of HT_.out (by kernel_rfl)) (fun _ _ _ h => h) (Or.inl ⟨by rfl, ?_⟩) ?_ ?_
    rotate_left
    ·intro w'
     go_simp
     with_reducible rfl
    rotate_left
    ·simp only [Act.put, List.setIfInBounds_toArray, List.set_cons_zero, List.set_cons_succ, i64_w, i32_w]
     rfl
    refine take_ (i := 6) (N := some 22) (v := ?_) (a' := ?_) #[true, true, true, true, true, true, true, false, false, false, false, false] rfl rfl (take_ofW HT_.out HW_.out (by kernel_rfl)) (fun _ _ _ h => h) (Or.inl ⟨by rfl, ?_⟩) hHeld ?_ ?_
    rotate_left
    ·rintro w' ⟨s0, s1⟩
     go_simp
     with_reducible rfl
    rotate_left
    ·simp only [Act.put, List.setIfInBounds_toArray, List.set_cons_zero, List.set_cons_succ, i64_w, i32_w]
     rfl
    refine one_ (i := 7) (N := some 23) #[true, true, true, true, true, true, true, true, false, false, false, false] rfl rfl (one_of HT_.out (by kernel_rfl)) (by decide) (fun K hK => ?_)
    refine goes_ Tryd.func63 (by kernel_rfl) rfl #[.string ((rd_T41 l0_4 x12_1).f1)] (by rfl) rfl rfl y14_ ?_
    with_reducible refine (refs_Value.calls ((rd_T41 l0_4 x12_1).f1) t469 _ A10.out).mono ?_
    rintro e w19 ⟨rfl, hb⟩
    refine ⟨_, rfl, ?_⟩
    have n0_ := Aside0.mk (blk_below (g := gb466) (o := .cells #[.int .i64 a0_0, .int .i64 a0_1, .string a0_2, .string a0_3, .slice (some ad467) l0_4.length c0_4] 35 (0, 0)) (y10_ BK466.out) hb)
    have n1_ := Aside0.mk (blk_below (g := gb468) (o := .cells #[.string ((rd_T41 l0_4 x12_1).f0), .string ((rd_T41 l0_4 x12_1).f1)] 41 (0, 0)) (y10_ BK468.out) hb)
    have n2_ := Aside0.mk (below_step (y19_ GE466.out GE468.out) hb)
    clear BK466
    clear BK468
    clear HB
    have BK466 := n0_
    have BK468 := n1_
    have HB := n2_
    clear n0_ n1_ n2_
    (try clear hb)
    (try clear hb2)
    (try clear hk)
    (try clear hi)
    refine hK.out _ _ ⟨(blk_cell BK468.out 0).trans rfl, (blk_cell BK468.out 1).trans rfl⟩ (fun hHeld => ?_)
    clear hK K
    refine norm_ (a' := ?_) ?_ ?_
    rotate_left
    ·show Act.put _ (some 23) _ = _
     simp only [Act.put, List.setIfInBounds_toArray, List.set_cons_zero, List.set_cons_succ, i64_w, i32_w]
     rfl
    refine pure_ (i := 8) (N := some 24) (v := ?_) (a' := ?_) #[true, true, true, true, true, true, true, true, true, false, false, false] rfl rfl (any_of HT_.out (by kernel_rfl)) (fun _ _ _ h => h) (Or.inl ⟨by rfl, ?_⟩) ?_ ?_
    rotate_left
    ·intro w'
     go_simp
     with_reducible rfl
    rotate_left
    ·simp only [Act.put, List.setIfInBounds_toArray, List.set_cons_zero, List.set_cons_succ, i64_w, i32_w]
     rfl
    refine pure_ (i := 9) (N := some 25) (v := ?_) (a' := ?_) #[true, true, true, true, true, true, true, true, true, true, false, false] rfl rfl (any_of HT_.out (by kernel_rfl)) (fun _ _ _ h => h) (Or.inl ⟨by rfl, ?_⟩) ?_ ?_
    rotate_left
    ·intro w'
     go_simp
     with_reducible rfl
    rotate_left
    ·simp only [Act.put, List.setIfInBounds_toArray, List.set_cons_zero, List.set_cons_succ, i64_w, i32_w]
     rfl
    refine pure_ (i := 10) (N := some 26) (v := ?_) (a' := ?_) #[true, true, true, true, true, true, true, true, true, true, true, false] rfl rfl (any_of HT_.out (by kernel_rfl)) (fun _ _ _ h => h) (Or.inl ⟨by rfl, ?_⟩) ?_ ?_
    rotate_left
    ·intro w'
     go_simp
     with_reducible rfl
    rotate_left
    ·simp only [Act.put, List.setIfInBounds_toArray, List.set_cons_zero, List.set_cons_succ, i64_w, i32_w]
     rfl
    refine pure_ (i := 11) (N := some 3) (v := ?_) (a' := ?_) #[true, true, true, true, true, true, true, true, true, true, true, true] rfl rfl (any_of HT_.out (by kernel_rfl)) (fun _ _ _ h => h) (Or.inl ⟨by rfl, ?_⟩) ?_ ?_
    rotate_left
    ·intro w'
     go_simp
     with_reducible rfl
    rotate_left
    ·simp only [Act.put, List.setIfInBounds_toArray, List.set_cons_zero, List.set_cons_succ, i64_w, i32_w]
     rfl
    refine done_ (done_of HT_.out (by kernel_rfl)) ?_
    try go_wp2
    go_roundg k1
    case measure => have := HK1.out; omega
    case rel => exact ⟨(x3_1 ++ (((((⟨#[32]⟩ : ByteArray) ++ ((rd_T41 l0_4 x12_1).f0)) ++ (⟨#[61, 34]⟩ : ByteArray)) ++ t469) ++ (⟨#[34]⟩ : ByteArray))), (wrap64 (x12_1 + 1)), y4_, y4_, H', ⟨by have := HK1.out; omega⟩, ⟨by (with_reducible repeat (first | refine blk_drewN ?_ _ | refine blk_drew ?_ | refine blk_alloc ?_ _)); exact BK466.out⟩, ⟨(y19_ GE466.out GE468.out)⟩⟩
   ·rw [if_neg c5] at H
    have c5b0 : decide (x12_1 < (l0_4.length : Int)) = false := decide_eq_false c5
    clear c5
    by_cases c20 : x3_1.size + 1 ≤ 9223372036854775807
    rotate_left
    ·rw [if_neg c20] at H
     exact absurd H (by simp)
    rw [if_pos c20] at H
    have c20b0 := eq_true c20
    have c20b1 : decide (x3_1.size + 1 ≤ 9223372036854775807) = true := decide_eq_true c20
    try have c20b2 : (9223372036854775807 < x3_1.size + 1) = False := eq_false (Nat.not_lt.2 c20)
    obtain rfl := Option.some.inj H
    go_wp2
    go_ret
    exact ⟨y11_, (y17_ GE466.out)⟩
end Go.Proofs.YtpnhjipaeggcpaaDoor.X
end
section
namespace Go.Proofs.YtpnhjipaeggcpaaDoor.X
open Go.RowKit Go.Proofs.YtpnhjipaeggcpaaDoorW.PrintWords Go.Proofs.YtpnhjipaeggcpaaDoorW.PrintLast Go.Proofs.YtpnhjipaeggcpaaDoorW.PrintMore
attribute [local go_sem] max2_int min2_int max_two min_two max_three min_three max_four min_four
def refs_Text.f (a0 : ByteArray) : Option (ByteArray) := (refs_written.f a0 false).bind fun t470 => (some t470)
set_option maxHeartbeats 8000000 in
set_option maxRecDepth 100000 in
theorem refs_Text.calls (a0 : ByteArray) (r : ByteArray) (w : World) (h : refs_Text.f a0 = some r) :
  Calls Tryd.prog 38 #[.string a0] w fun e w' => e = .returned (.string r) ∧ Below w.heap.size w w' := by
 have HB := Aside0.mk (Below.refl w.heap.size w)
 have H : ((refs_written.f a0 false).bind fun t470 => (some t470)) = some r := h
 clear h
 replace H := Option.bind_eq_some_iff.mp H
 obtain ⟨t470, A20, H⟩ := H
 have A2 := Aside0.mk A20
 clear A20
 obtain rfl := Option.some.inj H
 go_enter Tryd.func38, Tryd.ntmps38
 go_wp2_with (first | ((with_reducible refine gate_callee (f := 62) rfl ?_); refine goesL_ (some 4) rfl rfl Tryd.func62 (by kernel_rfl) rfl #[.string a0, .bool false] rfl y14_ ?_; (with_reducible refine (refs_written.calls a0 false t470 _ A2.out).mono ?_); rintro e w3 ⟨rfl, hb⟩; refine ⟨_, rfl, ?_⟩; have n0_ := Aside0.mk (below_step y13_ hb); clear HB; have HB := n0_; clear n0_; (try clear hb); (try clear hb2); (try clear hk); (try clear hi)))
 go_ret
 exact ⟨y11_, y13_⟩
end Go.Proofs.YtpnhjipaeggcpaaDoor.X
end
section
namespace Go.Proofs.YtpnhjipaeggcpaaDoor.X
open Go.RowKit Go.Proofs.YtpnhjipaeggcpaaDoorW.PrintWords Go.Proofs.YtpnhjipaeggcpaaDoorW.PrintLast Go.Proofs.YtpnhjipaeggcpaaDoorW.PrintMore
def Keep8 (b : Nat) (W W' : World) : Prop := W.heap.size ≤ W'.heap.size ∧ ∀ (k : Nat) (o : Obj), W.heap[k]? = some o → k ≠ b → (∀ cur fz, o ≠ .cells cur 5 fz) → W'.heap[k]? = some o
theorem Keep8.refl (b : Nat) (W : World) : Keep8 b W W := ⟨Nat.le_refl _, fun _ _ h _ _ => h⟩
theorem Keep8.trans {b : Nat} {A B C : World} (h : Keep8 b A B) (k : Keep8 b B C) : Keep8 b A C := ⟨Nat.le_trans h.1 k.1, fun i o hi hb ho => k.2 i o (h.2 i o hi hb ho) hb ho⟩
theorem Keep8.below {b : Nat} {A B : World} (h : Below A.heap.size A B) : Keep8 b A B := ⟨h.size, fun k o hk _ _ => (h.block k (Array.getElem?_eq_some_iff.1 hk).1).trans hk⟩
theorem Keep8.set (W : World) (b i : Nat) {v : Value} : Keep8 b W (W.setCell ⟨b, i, none⟩ v) := ⟨by simp, fun k o hk hb _ => (Below.heap_setCell W ⟨b, i, none⟩ v k hb).trans hk⟩
theorem Keep8.grown {b : Nat} {A B : World} {row : Option Nat} (hg : A.grownBy B row) (hr : ∀ k, row = some k → ∃ cur fz, A.heap[k]? = some (.cells cur 5 fz)) : Keep8 b A B :=
  ⟨hg.size, fun k o hk _ ho => (hg.block k (Array.getElem?_eq_some_iff.1 hk).1 (fun e => by
    obtain ⟨cur, fz, hc⟩ := hr k e.symm
    rw [hk] at hc
    exact ho cur fz (Option.some.inj hc))).trans hk⟩
theorem own8 {w : World} {B : Nat} {v : Value} {n : Nat} {xs : List Value} (h : w.ownsRow B 5 1 v n xs) {k : Nat} (hk : v.ownBlock = some k) : ∃ cur fz, w.heap[k]? = some (.cells cur 5 fz) := by
  rcases h.2 with ⟨rfl, _⟩ | ⟨g, cp, cur, rfl, _, hc, _⟩
  · cases hk
  · cases hk; exact ⟨cur, _, hc⟩
theorem copyCheck_more (B b : Nat) (bs : List Value) (w : World) (h : Bld B b bs w) :
    Calls Tryd.prog 61 #[.pointer (some ⟨b, 0, none⟩)] w fun e w' => e = .returned (.tuple #[]) ∧ (Lib.BuilderAt 54 5 B b (.pointer (some ⟨b, 0, none⟩)) bs w' ∧ Below B w w' ∧ Keep8 b w w') := by
  rcases h with h | h
  · refine (copyCheck_fresh b w h.cell0 h.shape h.frozen0).mono ?_
    rintro e w' ⟨rfl, rfl⟩
    exact ⟨rfl, h.used _, (Below.refl B w).setCell (p := ⟨b, 0, none⟩) h.1 _, Keep8.set _ _ _⟩
  · refine (copyCheck_used b w h.cell0).mono ?_
    rintro e w' ⟨rfl, rfl⟩
    exact ⟨rfl, h, Below.refl B _, Keep8.refl _ _⟩
set_option maxHeartbeats 2000000 in
set_option maxRecDepth 100000 in
theorem writeString_more (B b : Nat) (bs : List Value) (s : ByteArray) (w : World) (h : Bld B b bs w) (hlen : bs.length + s.size ≤ 140737488355328) (hBw : B ≤ w.heap.size) :
    Calls Tryd.prog 37 #[.pointer (some ⟨b, 0, none⟩), .string s] w fun e w' => e = .returned (.tuple #[.int .i64 s.size, .nilIface]) ∧ (Bld B b (bs ++ Lib.strCells s) w' ∧ Below B w w' ∧ Keep8 b w w') := by
  obtain ⟨i0, hi, hz0, hz1, hz2⟩ := info_parts bld_byte
  have u72 := Tryd.underlying54
  go_enter Tryd.func37, Tryd.ntmps37
  go_wp2_with (go_at_call 61; refine (copyCheck_more B b bs _ h).mono ?_)
  rintro e w1 ⟨rfl, h1, hb1, hk1⟩
  obtain ⟨hB, v, hbk, hown, hne⟩ := h1
  have c0 : w1.cell? ⟨b, 0, none⟩ = some (.pointer (some ⟨b, 0, none⟩)) := by rw [Lib.cell_of_heap hbk]; rfl
  have c1 : w1.cell? ⟨b, 1, none⟩ = some v := by rw [Lib.cell_of_heap hbk]; rfl
  go_wp2_with (at_builtin; refine Lib.wpList_append_own_string _ rfl _ _ 52 9 rfl B 5 i0 Tryd.underlying52 Tryd.underlying9 hi hz0 hz1 hz2 _ _ _ rfl hown s rfl ?c3 ?c4 ?c5 ?_)
  case c3 => unfold maxLen; omega
  case c4 => omega
  case c5 => have := hb1.size; omega
  intro v' w2 hown' hgrow _
  have hlt : b < w1.heap.size := (Array.getElem?_eq_some_iff.1 hbk).1
  have hb2 : w2.heap[b]? = some (.cells #[.pointer (some ⟨b, 0, none⟩), v] 54 (0, 0)) := by
    rw [hgrow.block b hlt (fun e => hne e.symm)]
    exact hbk
  have d0 : w2.cell? ⟨b, 0, none⟩ = some (.pointer (some ⟨b, 0, none⟩)) := by rw [Lib.cell_of_heap hb2]; rfl
  have d1 : w2.cell? ⟨b, 1, none⟩ = some v := by rw [Lib.cell_of_heap hb2]; rfl
  have f1 : w2.frozen? ⟨b, 1, none⟩ = false := Lib.frozen_of_heap hb2 1
  obtain ⟨ao, n', cap, rfl⟩ : ∃ ao n' cap, v' = .slice ao n' cap := by
    rcases hown'.2 with ⟨hv, _⟩ | ⟨g, cap, cur, hv, _⟩
    · exact ⟨_, _, _, hv⟩
    · exact ⟨_, _, _, hv⟩
  go_wp2
  go_ret2
  refine ⟨rfl, Bld.used ?_, ?_, (hk1.trans (Keep8.grown hgrow (fun k hk => own8 hown hk))).trans (Keep8.set _ _ _)⟩
  · exact Lib.BuilderAt.put (T := 54) (e := 5) hB hb2 (bs' := bs ++ Lib.strCells s) (by simpa [Lib.strCells_length] using hown') (by decide)
  · exact (hb1.grown hgrow (by have := hb1.size; omega) (fun k hk => (hown.lt k hk).1)).setCell (p := ⟨b, 1, none⟩) hB _
def wPut (acc : List UInt8) (s : ByteArray) : Option (List UInt8) := if acc.length + s.size ≤ 140737488355328 then some (acc ++ s.data.toList) else none
def wNode (l : List S35) : Nat → Int → Bool → List UInt8 → Option (List UInt8)
  | 0, _, _, _ => none
  | g + 1, k, raw, acc =>
    if 0 ≤ k ∧ k < (l.length : Int) then
      (if (rd_T35 l k).f1 = 1 then (if raw = true then wPut acc (rd_T35 l k).f3 else (refs_Text.f (rd_T35 l k).f3).bind (wPut acc))
      else if (rd_T35 l k).f1 = 2 then (if 4 + (rd_T35 l k).f3.size + 3 ≤ 9223372036854775807 then wPut acc ((⟨#[60, 33, 45, 45]⟩ : ByteArray) ++ (rd_T35 l k).f3 ++ (⟨#[45, 45, 62]⟩ : ByteArray)) else none)
      else if (rd_T35 l k).f1 = 0 then
        (write_opened.f ((rd_T35 l k).f4.length + 1) (rd_T35 l k).f0 (rd_T35 l k).f1 (rd_T35 l k).f2 (rd_T35 l k).f3 (rd_T35 l k).f4).bind fun s => (wPut acc s).bind fun a1 =>
          (names_Void.f 64 (rd_T35 l k).f2).bind fun v => if v = true then some a1 else
            (names_Raw.f 64 (rd_T35 l k).f2).bind fun q => (rows_Kids.f l k).bind fun ks => (ks.foldlM (fun a j => wNode l g j q a) a1).bind fun a2 =>
              if 2 + (rd_T35 l k).f2.size + 1 ≤ 9223372036854775807 then wPut a2 ((⟨#[60, 47]⟩ : ByteArray) ++ (rd_T35 l k).f2 ++ (⟨#[62]⟩ : ByteArray)) else none
      else some acc)
    else none
def wIn (l : List S35) (g : Nat) (k : Int) (raw : Bool) (acc : List UInt8) : Option (List UInt8) := (rows_Kids.f l k).bind fun ks => ks.foldlM (fun a j => wNode l g j raw a) acc
def write_written.f (l0 : List S35) (a1 : Int) : Option ByteArray :=
  (if a1 ≥ 0 then (if a1 < (l0.length : Int) then names_Raw.f 64 (rd_T35 l0 a1).f2 else none) else if a1 = -1 then some false else none).bind fun raw => (wIn l0 (l0.length + 1) a1 raw []).bind fun out => some ⟨out.toArray⟩
structure WInv (A : Option Addr) (n c b : Nat) (w W : World) (acc : List UInt8) : Prop where
  below : Below b w W
  l : W.heap[b]? = some (.cells #[.slice A n c] 22 (0, 0))
  node : W.heap[b + 2]? = some (.cells #[.func (.func 36) #[] #[.pointer (some ⟨b, 0, none⟩), .pointer (some ⟨b + 1, 0, none⟩), .pointer (some ⟨b + 3, 0, none⟩)]] 55 (0, 0))
  within : W.heap[b + 3]? = some (.cells #[.func (.func 34) #[] #[.pointer (some ⟨b, 0, none⟩), .pointer (some ⟨b + 2, 0, none⟩)]] 55 (0, 0))
  bld : Bld (b + 1) (b + 1) (Lib.byteCells acc) W
theorem WInv.step {A : Option Addr} {n c b : Nat} {w W W' : World} {acc acc' : List UInt8} (h : WInv A n c b w W acc) (hb : Below b W W') (hk : Keep8 (b + 1) W W') (hbld : Bld (b + 1) (b + 1) (Lib.byteCells acc') W') : WInv A n c b w W' acc' :=
  ⟨h.below.trans hb, hk.2 _ _ h.l (by omega) (fun _ _ e => by cases e), hk.2 _ _ h.node (by omega) (fun _ _ e => by cases e), hk.2 _ _ h.within (by omega) (fun _ _ e => by cases e), hbld⟩
theorem Bld.move {B b : Nat} {bs : List Value} {W W' : World} (h : Bld B b bs W) (hb : Below W.heap.size W W') : Bld B b bs W' := by
  have hAt : ∀ p, Lib.BuilderAt 54 5 B b p bs W → Lib.BuilderAt 54 5 B b p bs W' := fun p h => by
    obtain ⟨hB, v, hbk, hown, hne⟩ := h
    exact ⟨hB, v, (hb.block b (Array.getElem?_eq_some_iff.1 hbk).1).trans hbk, own_move hown (fun k hk => hb.block k (hown.lt k hk).2), hne⟩
  exact h.elim (fun h => .inl (hAt _ h)) (fun h => .inr (hAt _ h))
theorem ints_keep {b base : Nat} {W W' : World} {v : Value} {ks : List Int} (h : Kd.R (Kd.int .i64) 3 W base (fun _ => True) v ks) (hb : b < base) (hk : Keep8 b W W') : Kd.R (Kd.int .i64) 3 W' base (fun _ => True) v ks := by
  have h2 := Kd.R_bound h
  refine Kd.R_mono (Kd.R_move h2 (fun k hk2 => ?_)) (fun _ _ => trivial)
  obtain ⟨_, h3, _, q, hq, cells, hc⟩ := hk2
  have hq2 : q = 3 := by simpa [Kd.int, Kd.scalar] using hq
  subst hq2
  rw [hc]
  exact hk.2 _ _ hc (by omega) (fun _ _ e => by cases e)
set_option maxHeartbeats 4000000 in
set_option maxRecDepth 100000 in
theorem within_ok (A : Option Addr) (c : Nat) (l : List S35) (w : World) (hC : Kd.C k35 w A l.length l) (hc : l.length ≤ c) (g : Nat)
    (hnode : ∀ (j : Int) (raw : Bool) (acc acc' : List UInt8) (W : World), WInv A l.length c w.heap.size w W acc → wNode l g j raw acc = some acc' →
      Calls Tryd.prog 36 #[.int .i64 j, .bool raw, .pointer (some ⟨w.heap.size, 0, none⟩), .pointer (some ⟨w.heap.size + 1, 0, none⟩), .pointer (some ⟨w.heap.size + 3, 0, none⟩)] W fun e W' => e = .returned (.tuple #[]) ∧ WInv A l.length c w.heap.size w W' acc' ∧ Keep8 (w.heap.size + 1) W W')
    (k : Int) (raw : Bool) (acc acc' : List UInt8) (W : World) (hI : WInv A l.length c w.heap.size w W acc) (h : wIn l g k raw acc = some acc') :
    Calls Tryd.prog 34 #[.int .i64 k, .bool raw, .pointer (some ⟨w.heap.size, 0, none⟩), .pointer (some ⟨w.heap.size + 2, 0, none⟩)] W fun e W' => e = .returned (.tuple #[]) ∧ WInv A l.length c w.heap.size w W' acc' ∧ Keep8 (w.heap.size + 1) W W' := by
  obtain ⟨ks, hks, hfold⟩ := Option.bind_eq_some_iff.1 h
  clear h
  have hkc := rows_Kids.calls A c l k ks W (Kd.C_below hC hI.below) hc hks
  have cl := kids_block hI.l rfl
  have hsz : w.heap.size + 3 < W.heap.size := (Array.getElem?_eq_some_iff.1 hI.within).1
  have HI := Aside0.mk hI
  have HN := Aside0.mk hnode
  clear hI hnode hks hC
  go_enter Tryd.func34, Tryd.ntmps34
  go_wp2_with (go_at_call 35; refine hkc.mono ?_; clear hkc; rintro e W1 ⟨v, rfl, hR, hb⟩; obtain ⟨Ak, ck, rfl⟩ := Kd.R_slice hR)
  have hI1 := HI.out.step (hb.mono (by omega)) (Keep8.below hb) (HI.out.bld.move hb)
  have HB1 := Aside0.mk (Keep8.below (b := w.heap.size + 1) hb)
  have HR := Aside0.mk (Kd.R_lower hR (show w.heap.size + 2 ≤ W.heap.size by omega))
  have hmax : ks.length ≤ 9223372036854775807 := (Kd.R_reads' hR).2.2.2.1
  clear hR hb cl
  go_loopw [7, 12] (fun _ x wr => ∃ (i : Nat) (a1 : List UInt8), x = .int .i64 i ∧ i ≤ ks.length ∧ Aside0 (WInv A l.length c w.heap.size w wr a1) ∧ Aside0 ((ks.drop i).foldlM (fun a j => wNode l g j raw a) a1 = some acc') ∧ Aside0 (Keep8 (w.heap.size + 1) W1 wr)) (fun _ x _ => ks.length - (intOf x).toNat)
  case atStart => exact ⟨0, acc, rfl, Nat.zero_le _, ⟨hI1⟩, ⟨hfold⟩, ⟨Keep8.refl _ _⟩⟩
  case round =>
    obtain ⟨i, a1, rfl, hi, HW, HF, HK⟩ := hrel
    by_cases hlt : i < ks.length
    · have hlz : (i : Int) < (ks.length : Int) := by omega
      obtain ⟨x, hx, hxe⟩ := getD_at hlt
      have hf := HF.out
      rw [List.drop_eq_getElem_cons hlt, hxe, List.foldlM_cons] at hf
      obtain ⟨a2, h2, hf2⟩ := Option.bind_eq_some_iff.1 hf
      have hnc := HN.out x raw a1 a2 wr HW.out h2
      obtain ⟨ad, e, cx⟩ := int_at (Kd.R_reads' (ints_keep HR.out (by omega) HK.out)).2.2 hx
      cases e
      have cn := kids_block HW.out.node rfl
      have HF2 := Aside0.mk hf2
      clear hx hxe hf h2 hf2
      go_wp2_with (go_at_call 36; refine hnc.mono ?_; clear hnc; rintro e W3 ⟨rfl, hI3, hk3⟩)
      have HI3 := Aside0.mk hI3
      have HK3 := Aside0.mk (HK.out.trans hk3)
      go_roundw
      case rel => exact ⟨i + 1, a2, by go_num, by omega, HI3, HF2, HK3⟩
      case measure => simp [intOf]; omega
    · obtain rfl : i = ks.length := by omega
      have hlz : ¬ (ks.length : Int) < (ks.length : Int) := by omega
      have hf := HF.out
      rw [List.drop_eq_nil_of_le (Nat.le_refl _), List.foldlM_nil] at hf
      cases hf
      go_wp2
      go_end0
      exact ⟨rfl, HW.out, HB1.out.trans HK.out⟩
theorem cells_put (acc : List UInt8) (s : ByteArray) : Lib.byteCells acc ++ Lib.strCells s = Lib.byteCells (acc ++ s.data.toList) := by
  rw [show Lib.strCells s = Lib.byteCells s.data.toList from rfl]; simp [Lib.byteCells]
theorem put_ok {A : Option Addr} {n c : Nat} {w W : World} {acc acc' : List UInt8} (s : ByteArray) (hI : WInv A n c w.heap.size w W acc) (h : wPut acc s = some acc') :
    Calls Tryd.prog 37 #[.pointer (some ⟨w.heap.size + 1, 0, none⟩), .string s] W fun e W' => e = .returned (.tuple #[.int .i64 s.size, .nilIface]) ∧ WInv A n c w.heap.size w W' acc' ∧ Keep8 (w.heap.size + 1) W W' := by
  unfold wPut at h
  split at h
  case isFalse => cases h
  rename_i hlen
  cases h
  have hsz : w.heap.size + 3 < W.heap.size := (Array.getElem?_eq_some_iff.1 hI.within).1
  refine (writeString_more (w.heap.size + 1) (w.heap.size + 1) (Lib.byteCells acc) s W hI.bld (by rw [Lib.byteCells_length]; exact hlen) (by omega)).mono ?_
  rintro e W' ⟨rfl, h1, h2, h3⟩
  exact ⟨rfl, hI.step (h2.mono (by omega)) h3 (by rw [← cells_put]; exact h1), h3⟩
theorem WInv.move {A : Option Addr} {n c b : Nat} {w W W' : World} {acc : List UInt8} (h : WInv A n c b w W acc) (hb : Below W.heap.size W W') : WInv A n c b w W' acc :=
  h.step (hb.mono (by have := (Array.getElem?_eq_some_iff.1 h.within).1; omega)) (Keep8.below hb) (h.bld.move hb)
set_option maxHeartbeats 8000000 in
set_option maxRecDepth 100000 in
theorem node_ok (A : Option Addr) (c : Nat) (l : List S35) (w : World) (hC : Kd.C k35 w A l.length l) (hc : l.length ≤ c) : ∀ (g : Nat) (k : Int) (raw : Bool) (acc acc' : List UInt8) (W : World), WInv A l.length c w.heap.size w W acc → wNode l g k raw acc = some acc' →
      Calls Tryd.prog 36 #[.int .i64 k, .bool raw, .pointer (some ⟨w.heap.size, 0, none⟩), .pointer (some ⟨w.heap.size + 1, 0, none⟩), .pointer (some ⟨w.heap.size + 3, 0, none⟩)] W fun e W' => e = .returned (.tuple #[]) ∧ WInv A l.length c w.heap.size w W' acc' ∧ Keep8 (w.heap.size + 1) W W'
  | 0, _, _, _, _, _, _, h => by cases h
  | g + 1, k, raw, acc, acc', W, hI, h => by
    have ih := within_ok A c l w hC hc g (node_ok A c l w hC hc g)
    have hu := Tryd.underlying35
    rw [wNode] at h
    split at h
    case isFalse => cases h
    rename_i hk
    obtain ⟨kk, rfl⟩ := Int.eq_ofNat_of_zero_le hk.1
    have hlt : kk < l.length := by omega
    have hlz : (kk : Int) < (l.length : Int) := by omega
    obtain ⟨⟨xd, xk, xn, xt, xa⟩, hx, hxe⟩ := getD_at hlt
    have hrd : rd_T35 l (kk : Int) = ⟨xd, xk, xn, xt, xa⟩ := by simp [rd_T35, hx]
    rw [hrd] at h
    obtain ⟨ad, A4, c4, e, x0, x1, x2, x3, x4, l4, hC4⟩ := row_at (Kd.C_below hC hI.below) hx
    cases e
    dsimp only at *
    have cl := kids_block hI.l rfl
    have hI2 := hI.move ((Below.refl W.heap.size W).alloc (Nat.le_refl _) (.cells #[.int .i64 xd, .int .i64 xk, .string xn, .string xt, .slice A4 xa.length c4] 35))
    have hk2 := Keep8.below (b := w.heap.size + 1) ((Below.refl W.heap.size W).alloc (Nat.le_refl _) (.cells #[.int .i64 xd, .int .i64 xk, .string xn, .string xt, .slice A4 xa.length c4] 35))
    have HI2 := Aside0.mk hI2
    have HK2 := Aside0.mk hk2
    clear hI2 hk2 hx hxe hrd hC
    by_cases h1 : xk = 1
    · subst h1
      rw [if_pos rfl] at h
      cases raw with
      | true =>
        rw [if_pos rfl] at h
        have hp := put_ok xt HI2.out h
        go_enter Tryd.func36, Tryd.ntmps36
        go_wp2_with (go_at_call 37; refine hp.mono ?_; clear hp; rintro e W3 ⟨rfl, hI3, hk3⟩)
        go_end0
        exact ⟨rfl, hI3, HK2.out.trans hk3⟩
      | false =>
        rw [if_neg (by decide)] at h
        obtain ⟨s, hs, hput⟩ := Option.bind_eq_some_iff.1 h
        have ht := refs_Text.calls xt s (W.alloc (.cells #[.int .i64 xd, .int .i64 1, .string xn, .string xt, .slice A4 xa.length c4] 35)) hs
        have hp := fun W3 hb => put_ok s (HI2.out.move (W' := W3) hb) hput
        go_enter Tryd.func36, Tryd.ntmps36
        go_wp2_with (first | (go_at_call 38; refine ht.mono ?_; clear ht; rintro e W3 ⟨rfl, hb3⟩) | (go_at_call 37; refine (hp W3 hb3).mono ?_; clear hp; rintro e W4 ⟨rfl, hI3, hk3⟩))
        go_end0
        exact ⟨rfl, hI3, (HK2.out.trans (Keep8.below hb3)).trans hk3⟩
    · rw [if_neg h1] at h
      have h1b : (xk == 1) = false := beq_eq_false_iff_ne.mpr h1
      by_cases h2 : xk = 2
      · subst h2
        rw [if_pos rfl] at h
        split at h
        case isFalse => cases h
        rename_i hsz
        have hp := put_ok _ HI2.out h
        have hs1 : (9223372036854775807 < 4 + xt.size) = False := eq_false (by omega)
        have hs2 : (9223372036854775807 < 4 + xt.size + 3) = False := eq_false (by omega)
        go_enter Tryd.func36, Tryd.ntmps36
        go_wp2_with (go_at_call 37; refine hp.mono ?_; clear hp; rintro e W3 ⟨rfl, hI3, hk3⟩)
        go_end0
        exact ⟨rfl, hI3, HK2.out.trans hk3⟩
      · rw [if_neg h2] at h
        have h2b : (xk == 2) = false := beq_eq_false_iff_ne.mpr h2
        by_cases h0 : xk = 0
        · subst h0
          rw [if_pos rfl] at h
          obtain ⟨s, hs, h⟩ := Option.bind_eq_some_iff.1 h
          obtain ⟨a1, ha1, h⟩ := Option.bind_eq_some_iff.1 h
          obtain ⟨v, hv, h⟩ := Option.bind_eq_some_iff.1 h
          have hbx2 : (W.alloc (.cells #[.int .i64 xd, .int .i64 0, .string xn, .string xt, .slice A4 xa.length c4] 35)).heap[W.heap.size]? = some (.cells #[.int .i64 xd, .int .i64 0, .string xn, .string xt, .slice A4 xa.length c4] 35 (0, 0)) := World.alloc_heap_new W _
          have ho := write_opened.calls (xa.length + 1) xd 0 xn xt A4 c4 xa s (W.alloc (.cells #[.int .i64 xd, .int .i64 0, .string xn, .string xt, .slice A4 xa.length c4] 35)) (Kd.C_below hC4 ((Below.refl _ W).alloc (Nat.le_refl _) _)) l4 hs
          have hp := fun W3 hb => put_ok s (HI2.out.move (W' := W3) hb) ha1
          have hvd := fun W4 => names_Void.calls 64 xn v W4 hv
          have hsz : w.heap.size + 3 < W.heap.size := (Array.getElem?_eq_some_iff.1 hI.within).1
          clear hs ha1 hv hC4
          cases v with
          | true =>
            rw [if_pos rfl] at h
            cases h
            go_enter Tryd.func36, Tryd.ntmps36
            go_wp2_with (first | (go_at_call 39; refine ho.mono ?_; clear ho; rintro e W3 ⟨rfl, hb3⟩) | (go_at_call 37; refine (hp W3 hb3).mono ?_; clear hp; rintro e W4 ⟨rfl, hI4, hk4⟩; have hbx4 := hk4.2 _ _ ((hb3.block _ (by simp)).trans hbx2) (by omega) (fun _ _ e => by cases e); have n4 : W4.cell? ⟨W.heap.size, 2, none⟩ = some (.string xn) := (blk_cell hbx4 2).trans rfl) | (go_at_call 26; refine (hvd W4).mono ?_; clear hvd; rintro e W5 ⟨rfl, hb5⟩))
            go_end0
            exact ⟨rfl, hI4.move hb5, ((HK2.out.trans (Keep8.below hb3)).trans hk4).trans (Keep8.below hb5)⟩
          | false =>
            rw [if_neg (by decide)] at h
            obtain ⟨q, hq, h⟩ := Option.bind_eq_some_iff.1 h
            obtain ⟨ks, hks, h⟩ := Option.bind_eq_some_iff.1 h
            obtain ⟨a2, ha2, h⟩ := Option.bind_eq_some_iff.1 h
            split at h
            case isFalse => cases h
            rename_i hns
            have hs1 : (9223372036854775807 < 2 + xn.size) = False := eq_false (by omega)
            have hs2 : (9223372036854775807 < 2 + xn.size + 1) = False := eq_false (by omega)
            have hwi := fun V hV => ih (kk : Int) q a1 a2 V hV (show wIn l g (kk : Int) q a1 = some a2 by unfold wIn; rw [hks]; exact ha2)
            have hrw := fun V => names_Raw.calls 64 xn q V hq
            have hpe := fun V (hV : WInv (some ad) l.length c w.heap.size w V a2) => put_ok _ hV h
            clear ih hq hks ha2 h
            go_enter Tryd.func36, Tryd.ntmps36
            go_wp2_with (first | (go_at_call 39; refine ho.mono ?_; clear ho; rintro e W3 ⟨rfl, hb3⟩) | (go_at_call 37; refine (hp W3 hb3).mono ?_; clear hp; rintro e W4 ⟨rfl, hI4, hk4⟩; have hbx4 := hk4.2 _ _ ((hb3.block _ (by simp)).trans hbx2) (by omega) (fun _ _ e => by cases e); have n4 : W4.cell? ⟨W.heap.size, 2, none⟩ = some (.string xn) := (blk_cell hbx4 2).trans rfl) | (go_at_call 26; refine (hvd W4).mono ?_; clear hvd; rintro e W5 ⟨rfl, hb5⟩))
            have hI5 := hI4.move hb5
            have hbx5 := (hb5.block _ (Array.getElem?_eq_some_iff.1 hbx4).1).trans hbx4
            have n5 : W5.cell? ⟨W.heap.size, 2, none⟩ = some (.string xn) := (blk_cell hbx5 2).trans rfl
            have w5 := kids_block hI5.within rfl
            have HI5 := Aside0.mk hI5
            have HBX5 := Aside0.mk hbx5
            have HK5 := Aside0.mk (((HK2.out.trans (Keep8.below hb3)).trans hk4).trans (Keep8.below hb5))
            clear hI5 hbx5 hI4 hk4 hb3 hb5 hbx4 hbx2 n4 x0 x1 x2 x3 x4 cl
            go_region_with (first | (go_at_call 40; refine (hrw _).mono ?_; rintro e W6 ⟨rfl, hb6⟩; have hI6 := HI5.out.move (W' := W6) ⟨hb6.os, hb6.tape, hb6.output, hb6.size, hb6.block⟩; have w6 := kids_block hI6.within rfl; have hk6 := Keep8.below (b := w.heap.size + 1) (A := W5) (B := W6) ⟨hb6.os, hb6.tape, hb6.output, hb6.size, hb6.block⟩) | (go_at_call 34; refine (hwi _ hI6).mono ?_; rintro e W7 ⟨rfl, hI7, hk7⟩))
            all_goals
              have hbx7 := hk7.2 _ _ (hk6.2 _ _ HBX5.out (by omega) (fun _ _ e => by cases e)) (by omega) (fun _ _ e => by cases e)
              have n7 : W7.cell? ⟨W.heap.size, 2, none⟩ = some (.string xn) := (blk_cell hbx7 2).trans rfl
              have HK7 := Aside0.mk ((HK5.out.trans hk6).trans hk7)
              have hp7 := hpe W7 hI7
              clear hk6 hk7 hbx7 hb6 hpe w6 hI6
              go_wp2_with (go_at_call 37; refine hp7.mono ?_; clear hp7; rintro e W8 ⟨rfl, hI8, hk8⟩)
              go_end0
              exact ⟨rfl, hI8, HK7.out.trans hk8⟩
        · rw [if_neg h0] at h
          have h0b : (xk == 0) = false := beq_eq_false_iff_ne.mpr h0
          cases h
          go_enter Tryd.func36, Tryd.ntmps36
          go_wp2
          go_end0
          exact ⟨rfl, HI2.out, HK2.out⟩
end Go.Proofs.YtpnhjipaeggcpaaDoor.X
end
section
namespace Go.Proofs.YtpnhjipaeggcpaaDoor.X
open Go.RowKit Go.Proofs.YtpnhjipaeggcpaaDoorW.PrintWords Go.Proofs.YtpnhjipaeggcpaaDoorW.PrintLast Go.Proofs.YtpnhjipaeggcpaaDoorW.PrintMore
theorem w64 {n : Int} (h0 : -9223372036854775808 ≤ n) (h1 : n ≤ 9223372036854775807) : wrap64 n = n := by unfold wrap64; omega
theorem w64n {n : Nat} (h1 : n + 1 ≤ 9223372036854775807) : wrap64 ((n : Int) + 1) = ((n + 1 : Nat) : Int) := by unfold wrap64; omega
def bs (l : List UInt8) : ByteArray := ⟨l.toArray⟩
theorem bs_app (a b : List UInt8) : bs a ++ bs b = bs (a ++ b) := by
  apply ByteArray.ext
  simp [bs]
theorem bs_size (l : List UInt8) : (bs l).size = l.length := by simp [bs, ByteArray.size]
theorem bs_data (l : List UInt8) : (bs l).data.toList = l := rfl
theorem size_eq (s : ByteArray) : s.size = s.data.toList.length := (Array.length_toList).symm
theorem ext1 (s : ByteArray) (j : Nat) (h : j < s.size) : s.extract j (j + 1) = bs [s[j]] := by
  apply ByteArray.ext
  rw [ByteArray.data_extract]
  apply Array.ext'
  have h2 : j < s.data.toList.length := by rw [← size_eq]; exact h
  rw [Array.toList_extract, List.extract_eq_take_drop]
  rw [List.drop_eq_getElem_cons h2, show j + 1 - j = 1 by omega]
  simp [bs]
  rfl
def inB (l : List ByteArray) (s : ByteArray) : Bool := l.any fun x => x.toList == s.toList
theorem rdOf_at {l : List ByteArray} {j : Nat} (h : j < l.length) : rdOf ByteArray.empty l (j : Int) = l[j] := by simp [rdOf, h]
theorem among_loop (l : List ByteArray) (a : ByteArray) (hl : l.length ≤ 4611686018427387904) : ∀ (k j : Nat), j ≤ l.length → l.length - j < k → names_among.l0 k a l (l.length : Int) (j : Int) = some (inB (l.drop j) a)
  | 0, j, hj, hk => by omega
  | k + 1, j, hj, hk => by
    rw [names_among.l0]
    by_cases hlt : j < l.length
    · rw [if_pos (by omega), if_pos (by omega), if_pos (by omega), rdOf_at hlt, List.drop_eq_getElem_cons hlt, w64n (by omega)]
      unfold inB
      rw [List.any_cons]
      by_cases he : l[j].toList = a.toList
      · rw [if_pos he]; simp [he]
      · rw [if_neg he, among_loop l a hl k (j + 1) (by omega) (by omega)]
        simp [he, inB]
    · rw [if_neg (by omega), List.drop_eq_nil_of_le (by omega)]; rfl
theorem among_is (l : List ByteArray) (a : ByteArray) (hl : l.length ≤ 4611686018427387904) {k : Nat} (hk : l.length < k) : names_among.f k a l = some (inB l a) := by
  have := among_loop l a hl k 0 (Nat.zero_le _) (by omega)
  exact this
theorem has_loop (l : List ByteArray) (a : ByteArray) (hl : l.length ≤ 4611686018427387904) : ∀ (k j : Nat), j ≤ l.length → l.length - j < k → boltingref02_Has.l0 k l a (j : Int) = some (inB (l.drop j) a)
  | 0, j, hj, hk => by omega
  | k + 1, j, hj, hk => by
    rw [boltingref02_Has.l0]
    by_cases hlt : j < l.length
    · rw [if_pos (by omega), if_pos (by omega), rdOf_at hlt, List.drop_eq_getElem_cons hlt, w64n (by omega)]
      unfold inB
      rw [List.any_cons]
      by_cases he : l[j].toList = a.toList
      · rw [if_pos he]; simp [he]
      · rw [if_neg he, has_loop l a hl k (j + 1) (by omega) (by omega)]
        simp [he, inB]
    · rw [if_neg (by omega), List.drop_eq_nil_of_le (by omega)]; rfl
theorem has_is (l : List ByteArray) (a : ByteArray) (hl : l.length ≤ 4611686018427387904) {k : Nat} (hk : l.length < k) : boltingref02_Has.f k l a = some (inB l a) := by
  have := has_loop l a hl k 0 (Nat.zero_le _) (by omega)
  exact this
def ints (l : List UInt8) : List Int := l.map fun c => (c.toNat : Int)
theorem ints_app (a b : List UInt8) : ints (a ++ b) = ints a ++ ints b := List.map_append
theorem ints_length (a : List UInt8) : (ints a).length = a.length := List.length_map _
theorem bytesOf_bs (l : List UInt8) : bytesOf (bs l) = ints l := rfl
theorem strOf_ints (l : List UInt8) : strOfNums (ints l) = bs l := by
  unfold strOfNums ints bs
  rw [List.map_map]
  congr 2
  apply (List.map_congr_left (g := id) ?_).trans (List.map_id _)
  intro c _
  simp
theorem bt_here (s : ByteArray) (j : Nat) (h : j < s.size) : bt s (j : Int) = (s[j].toNat : Int) := by simp [bt, h]
theorem drop_here (s : ByteArray) (j : Nat) (h : j < s.size) : s.data.toList.drop j = s[j] :: s.data.toList.drop (j + 1) := by
  rw [List.drop_eq_getElem_cons (show j < s.data.toList.length from h)]; rfl
theorem u8i {c : UInt8} {n : Nat} (hn : n < 256) : ((c.toNat : Int) = n) ↔ c = UInt8.ofNat n := by
  constructor
  · intro h; exact u8_of h hn
  · rintro rfl
    rw [UInt8.toNat_ofNat', Nat.mod_eq_of_lt hn]
theorem write_loop (s : ByteArray) (q : Bool) (hs : 6 * s.size ≤ 140737488355300) : ∀ (k j : Nat) (out : List UInt8), j ≤ s.size → s.size - j < k → out.length ≤ 6 * j →
    boltingref03_Write.l0 k s q (ints out) (j : Int) = some (bs (out ++ escAll q (s.data.toList.drop j)))
  | 0, j, out, hj, hk, ho => by omega
  | k + 1, j, out, hj, hk, ho => by
    rw [boltingref03_Write.l0]
    by_cases hlt : j < s.size
    · have hstep : ∀ t : List UInt8, t.length ≤ 6 → escAll q (s.data.toList.drop j) = t ++ escAll q (s.data.toList.drop (j + 1)) → boltingref03_Write.l0 k s q (ints out ++ bytesOf (bs t)) ((j + 1 : Nat) : Int) = some (bs (out ++ escAll q (s.data.toList.drop j))) := fun t ht he => by
        rw [bytesOf_bs, ← ints_app, write_loop s q hs k (j + 1) (out ++ t) (by omega) (by omega) (by rw [List.length_append]; omega), he, List.append_assoc]
      rw [if_pos (by omega), if_pos (by omega), w64n (by omega), if_pos (by omega), if_pos (by omega), bt_here s j hlt]
      have hext : s.extract ((j : Int)).toNat (((j + 1 : Nat) : Int)).toNat = bs [s[j]] := ext1 s j hlt
      rw [hext, ints_length, bs_size]
      have hd := drop_here s j hlt
      generalize hc : s[j] = c at *
      by_cases h1 : c = 38
      · subst h1; rw [if_pos (by decide), if_pos (by omega)]
        exact hstep [38, 97, 109, 112, 59] (by decide) (by rw [hd, escAll_cons _ _ _ (by rintro ⟨h, _⟩; cases h)]; rfl)
      rw [if_neg (by rw [show ((38 : Int)) = ((38 : Nat) : Int) from rfl, u8i (by decide)]; exact h1)]
      by_cases h2 : c = 60
      · subst h2; rw [if_pos (by decide), if_pos (by omega)]
        exact hstep [38, 108, 116, 59] (by decide) (by rw [hd, escAll_cons _ _ _ (by rintro ⟨h, _⟩; cases h)]; rfl)
      rw [if_neg (by rw [show ((60 : Int)) = ((60 : Nat) : Int) from rfl, u8i (by decide)]; exact h2)]
      by_cases h3 : c = 62
      · subst h3; rw [if_pos (by decide), if_pos (by omega)]
        exact hstep [38, 103, 116, 59] (by decide) (by rw [hd, escAll_cons _ _ _ (by rintro ⟨h, _⟩; cases h)]; rfl)
      rw [if_neg (by rw [show ((62 : Int)) = ((62 : Nat) : Int) from rfl, u8i (by decide)]; exact h3)]
      by_cases h4 : c = 34
      · subst h4; rw [if_pos (by decide)]
        cases q with
        | true =>
          rw [if_pos rfl, if_pos (by omega)]
          exact hstep [38, 113, 117, 111, 116, 59] (by decide) (by rw [hd, escAll_cons _ _ _ (by rintro ⟨h, _⟩; cases h)]; rfl)
        | false =>
          rw [if_neg (by decide), if_pos (by simp only [List.length_singleton]; omega)]
          exact hstep [34] (by decide) (by rw [hd, escAll_cons _ _ _ (by rintro ⟨h, _⟩; cases h)]; rfl)
      rw [if_neg (by rw [show ((34 : Int)) = ((34 : Nat) : Int) from rfl, u8i (by decide)]; exact h4)]
      have hplain : ¬ (c = 194 ∧ ∃ t, s.data.toList.drop (j + 1) = 160 :: t) → escAll q (s.data.toList.drop j) = [c] ++ escAll q (s.data.toList.drop (j + 1)) := fun hn => by
        rw [hd, escAll_cons _ _ _ hn]
        congr 1
        simp [esc, h1, h2, h3, h4]
      by_cases h5 : c = 194
      · subst h5; rw [if_pos (by decide)]
        by_cases hlt2 : j + 1 < s.size
        · rw [if_pos (by omega), if_pos (by omega), bt_here s (j + 1) hlt2]
          have hd2 := drop_here s (j + 1) hlt2
          by_cases h6 : s[j + 1] = 160
          · rw [h6] at hd2
            rw [h6, if_pos (by decide), if_pos (by omega), w64n (by omega)]
            rw [show bytesOf (⟨#[38, 110, 98, 115, 112, 59]⟩ : ByteArray) = ints [38, 110, 98, 115, 112, 59] from rfl, ← ints_app, write_loop s q hs k (j + 1 + 1) (out ++ [38, 110, 98, 115, 112, 59]) (by omega) (by omega) (by simp; omega)]
            rw [hd, hd2, escAll_nbsp, List.append_assoc]
          · rw [if_neg (by rw [show ((160 : Int)) = ((160 : Nat) : Int) from rfl, u8i (by decide)]; exact h6), if_pos (by simp only [List.length_singleton]; omega)]
            exact hstep [194] (by decide) (hplain (by rintro ⟨_, t, ht⟩; rw [hd2] at ht; injection ht with ht _; exact h6 ht))
        · rw [if_neg (by omega), if_pos (by simp only [List.length_singleton]; omega)]
          exact hstep [194] (by decide) (hplain (by rintro ⟨_, t, ht⟩; rw [List.drop_eq_nil_of_le (by rw [← size_eq]; omega)] at ht; cases ht))
      rw [if_neg (by rw [show ((194 : Int)) = ((194 : Nat) : Int) from rfl, u8i (by decide)]; exact h5), if_pos (by simp only [List.length_singleton]; omega)]
      exact hstep [c] (by simp) (hplain (fun h => h5 h.1))
    · rw [if_neg (by omega), strOf_ints, List.drop_eq_nil_of_le (by rw [← size_eq]; omega)]
      simp [escAll]
theorem write_is (s : ByteArray) (q : Bool) (hs : 6 * s.size ≤ 140737488355300) {k : Nat} (hk : s.size < k) : boltingref03_Write.f k s q = some (bs (escAll q s.data.toList)) := by
  have := write_loop s q hs k 0 [] (Nat.zero_le _) (by omega) (by simp)
  exact this
theorem written_is (s : ByteArray) (q : Bool) (hs : 6 * s.size ≤ 140737488355300) : refs_written.f s q = some (bs (escAll q s.data.toList)) := by
  unfold refs_written.f
  rw [if_pos (by omega)]; rfl
theorem text_is (s : ByteArray) (hs : 6 * s.size ≤ 140737488355300) : refs_Text.f s = some (bs (escAll false s.data.toList)) := by unfold refs_Text.f; rw [written_is s _ hs]; rfl
theorem value_is (s : ByteArray) (hs : 6 * s.size ≤ 140737488355300) : refs_Value.f s = some (bs (escAll true s.data.toList)) := by unfold refs_Value.f; rw [written_is s _ hs]; rfl
theorem escAll_length (q : Bool) : ∀ (n : Nat) (l : List UInt8), l.length ≤ n → (escAll q l).length ≤ 6 * l.length
  | 0, l, hn => by
    obtain rfl := List.length_eq_zero_iff.1 (Nat.le_zero.1 hn)
    simp [escAll]
  | n + 1, l, hn => by
    cases l with
    | nil => simp [escAll]
    | cons c r =>
      by_cases h : c = 194 ∧ ∃ t, r = 160 :: t
      · obtain ⟨rfl, t, rfl⟩ := h
        rw [escAll_nbsp, List.length_append]
        have := escAll_length q n t (by simp at hn; omega)
        simp; omega
      · rw [escAll_cons q c r h, List.length_append]
        have := escAll_length q n r (by simpa using hn)
        have := esc_length q c
        simp; omega
def attrTxt (a : S41) : List UInt8 := [32] ++ a.f0.data.toList ++ [61, 34] ++ escAll true a.f1.data.toList ++ [34]
def openTxt (n : ByteArray) (l : List S41) : List UInt8 := [60] ++ n.data.toList ++ l.flatMap attrTxt ++ [62]
def AttrSmall (a : S41) : Prop := a.f0.size ≤ 1048576 ∧ a.f1.size ≤ 1048576
theorem attr_bs (n : ByteArray) (t : List UInt8) : (((((⟨#[32]⟩ : ByteArray) ++ n) ++ (⟨#[61, 34]⟩ : ByteArray)) ++ bs t) ++ (⟨#[34]⟩ : ByteArray)) = bs ([32] ++ n.data.toList ++ [61, 34] ++ t ++ [34]) := by
  apply ByteArray.ext
  simp [bs]
theorem attrTxt_length (a : S41) (h : AttrSmall a) : (attrTxt a).length ≤ 7340036 := by
  have h1 := escAll_length true _ a.f1.data.toList (Nat.le_refl _)
  have h2 := h.1
  have h3 := h.2
  rw [size_eq] at h2 h3
  simp [attrTxt]
  simp at h1 h2 h3
  omega
theorem rdA_at {l : List S41} {j : Nat} (h : j < l.length) : rd_T41 l (j : Int) = l[j] := by simp [rd_T41, h]
theorem tag_loop (f0 f1 : Int) (f2 f3 : ByteArray) (l : List S41) (hl : l.length ≤ 1048576) (hsm : ∀ a ∈ l, AttrSmall a) : ∀ (d k j : Nat) (out : List UInt8), j + d = l.length → 1048577 + d < k → out.length ≤ 1048577 + 7340036 * j →
    boltingref08_tag.l0 k (bs out) (j : Int) f0 f1 f2 f3 l = some (bs (out ++ (l.drop j).flatMap attrTxt ++ [62]))
  | 0, k, j, out, hj, hk, ho => by
    obtain ⟨k, rfl⟩ : ∃ m, k = m + 1 := ⟨k - 1, by omega⟩
    rw [boltingref08_tag.l0, if_neg (by omega), bs_size, if_pos (by omega), List.drop_eq_nil_of_le (by omega), show (⟨#[62]⟩ : ByteArray) = bs [62] from rfl, bs_app]
    simp
  | d + 1, k, j, out, hj, hk, ho => by
    obtain ⟨k, rfl⟩ : ∃ m, k = m + 1 := ⟨k - 1, by omega⟩
    have hlt : j < l.length := by omega
    obtain ⟨h1, h2⟩ := hsm l[j] (List.getElem_mem hlt)
    have hz := attrTxt_length l[j] ⟨h1, h2⟩
    have he := escAll_length true _ l[j].f1.data.toList (Nat.le_refl _)
    rw [← size_eq] at he
    rw [boltingref08_tag.l0, if_pos (by omega), if_pos (by omega), rdA_at hlt, if_pos (by omega), if_pos (by simp only [ByteArray.size_append, lit_size, List.length_cons, List.length_nil]; omega), write_is _ _ (by omega) (by omega), Option.bind_some]
    rw [attr_bs, ← attrTxt]
    rw [if_pos (by simp only [ByteArray.size_append, bs_size, lit_size, List.length_cons, List.length_nil]; omega), if_pos (by simp only [ByteArray.size_append, bs_size, lit_size, List.length_cons, List.length_nil]; omega), if_pos (by simp only [bs_size]; omega), w64n (by omega), bs_app]
    rw [tag_loop f0 f1 f2 f3 l hl hsm d k (j + 1) _ (by omega) (by omega) (by rw [List.length_append]; omega), List.drop_eq_getElem_cons hlt, List.flatMap_cons]
    simp
theorem tag_is (f0 f1 : Int) (f2 f3 : ByteArray) (l : List S41) (hn : f2.size ≤ 1048576) (hl : l.length ≤ 1048576) (hsm : ∀ a ∈ l, AttrSmall a) {k : Nat} (hk : 2097153 < k) : boltingref08_tag.f k f0 f1 f2 f3 l = some (bs (openTxt f2 l)) := by
  unfold boltingref08_tag.f
  rw [if_pos (by omega)]
  have := tag_loop f0 f1 f2 f3 l hl hsm l.length k 0 ([60] ++ f2.data.toList) (by omega) (by omega) (by rw [List.length_append, ← size_eq]; simp; omega)
  rw [List.drop_zero] at this
  exact this
theorem opened_loop (l : List S41) (hl : l.length ≤ 1048576) (hsm : ∀ a ∈ l, AttrSmall a) : ∀ (d k j : Nat) (out : List UInt8), j + d = l.length → d < k → out.length ≤ 1048577 + 7340036 * j →
    write_opened.l0 k (bs out) l (l.length : Int) (j : Int) = some (bs (out ++ (l.drop j).flatMap attrTxt ++ [62]))
  | 0, k, j, out, hj, hk, ho => by
    obtain ⟨k, rfl⟩ : ∃ m, k = m + 1 := ⟨k - 1, by omega⟩
    rw [write_opened.l0, if_neg (by omega), bs_size, if_pos (by omega), List.drop_eq_nil_of_le (by omega), show (⟨#[62]⟩ : ByteArray) = bs [62] from rfl, bs_app]
    simp
  | d + 1, k, j, out, hj, hk, ho => by
    obtain ⟨k, rfl⟩ : ∃ m, k = m + 1 := ⟨k - 1, by omega⟩
    have hlt : j < l.length := by omega
    obtain ⟨h1, h2⟩ := hsm l[j] (List.getElem_mem hlt)
    have hz := attrTxt_length l[j] ⟨h1, h2⟩
    have he := escAll_length true _ l[j].f1.data.toList (Nat.le_refl _)
    rw [← size_eq] at he
    rw [write_opened.l0, if_pos (by omega), if_pos (by omega), if_pos (by omega), rdA_at hlt, if_pos (by omega), if_pos (by simp only [ByteArray.size_append, lit_size, List.length_cons, List.length_nil]; omega), value_is _ (by omega), Option.bind_some]
    rw [attr_bs, ← attrTxt]
    rw [if_pos (by simp only [ByteArray.size_append, bs_size, lit_size, List.length_cons, List.length_nil]; omega), if_pos (by simp only [ByteArray.size_append, bs_size, lit_size, List.length_cons, List.length_nil]; omega), if_pos (by simp only [bs_size]; omega), w64n (by omega), bs_app]
    rw [opened_loop l hl hsm d k (j + 1) _ (by omega) (by omega) (by rw [List.length_append]; omega), List.drop_eq_getElem_cons hlt, List.flatMap_cons]
    simp
theorem opened_is (f0 f1 : Int) (f2 f3 : ByteArray) (l : List S41) (hn : f2.size ≤ 1048576) (hl : l.length ≤ 1048576) (hsm : ∀ a ∈ l, AttrSmall a) {k : Nat} (hk : l.length < k) : write_opened.f k f0 f1 f2 f3 l = some (bs (openTxt f2 l)) := by
  unfold write_opened.f
  rw [if_pos (by omega)]
  have := opened_loop l hl hsm l.length k 0 ([60] ++ f2.data.toList) (by omega) (by omega) (by rw [List.length_append, ← size_eq]; simp; omega)
  rw [List.drop_zero] at this
  exact this
end Go.Proofs.YtpnhjipaeggcpaaDoor.X
end
section
namespace Go.Proofs.YtpnhjipaeggcpaaDoor.X
open Go.RowKit Go.Proofs.YtpnhjipaeggcpaaDoorW.PrintWords Go.Proofs.YtpnhjipaeggcpaaDoorW.PrintLast Go.Proofs.YtpnhjipaeggcpaaDoorW.PrintMore
abbrev RowT := S35
abbrev AttT := S41
theorem rdR_at {l : List RowT} {j : Nat} (h : j < l.length) : rd_T35 l (j : Int) = l[j] := by simp [rd_T35, h]
def dupIn (l : List AttT) (i j : Nat) : Bool := (List.range' j (i - j)).any fun k => (rd_T41 l (i : Int)).f0.toList == (rd_T41 l (k : Int)).f0.toList
def dupFrom (l : List AttT) (i : Nat) : Bool := (List.range' i (l.length - i)).any fun k => dupIn l k 0
def rowB (x : RowT) : Bool := if x.f1 = 1 ∨ x.f1 = 2 then x.f2.toList == [] && x.f4.length == 0 else !dupFrom x.f4 0 && (decide (x.f1 = 0) && (!(x.f2.toList == []) && x.f3.toList == []))
theorem range'_cons {j n : Nat} (h : j < n) : List.range' j (n - j) = j :: List.range' (j + 1) (n - (j + 1)) := by
  rw [show n - j = (n - (j + 1)) + 1 by omega, List.range'_succ]
theorem evI {α : Type} {g f : Nat → Option α} {r : α} (h : ∀ k, g (k + 1) = f k) (k : Ev f r) : Ev g r := Ev.step h k
theorem evK {α : Type} {g : Nat → Option α} {r : α} (h : ∀ k, g (k + 1) = some r) : Ev g r := Ev.step h (Ev.now r)
theorem evAt {α : Type} {g : Nat → Option α} {r : α} (n : Nat) (h : ∀ k, n < k → g k = some r) : Ev g r := ⟨n + 1, fun k hk => h k hk⟩
theorem row_l1 (f0 f1 : Int) (f2 f3 : ByteArray) (l : List AttT) (hl : l.length ≤ 4611686018427387904) (r : Bool) (i : Nat) (hi : i < l.length) (hnext : Ev (fun k => boltingref04_Row.l0 k ((i + 1 : Nat) : Int) f0 f1 f2 f3 l) r) : ∀ (d j : Nat), j + d = i →
    Ev (fun k => boltingref04_Row.l1 k (i : Int) (j : Int) f0 f1 f2 f3 l) (!dupIn l i j && r)
  | 0, j, hj => by
    obtain rfl : j = i := hj
    have : dupIn l j j = false := by simp [dupIn]
    rw [this]
    refine evI (fun k => ?_) hnext
    rw [boltingref04_Row.l1, if_neg (by omega), w64n (by omega)]
  | d + 1, j, hj => by
    have hlt : j < i := by omega
    have ih := row_l1 f0 f1 f2 f3 l hl r i hi hnext d (j + 1) (by omega)
    have hd : dupIn l i j = ((rd_T41 l (i : Int)).f0.toList == (rd_T41 l (j : Int)).f0.toList || dupIn l i (j + 1)) := by
      unfold dupIn
      rw [range'_cons hlt, List.any_cons]
    by_cases he : (rd_T41 l (i : Int)).f0.toList = (rd_T41 l (j : Int)).f0.toList
    · rw [hd, beq_iff_eq.2 he]
      refine evK (fun k => ?_)
      rw [boltingref04_Row.l1, if_pos (by omega), if_pos (by omega), if_pos (by omega), if_pos (by omega), if_pos (by omega), if_pos he]
      rfl
    · rw [hd, beq_eq_false_iff_ne.2 he, Bool.false_or]
      refine evI (fun k => ?_) ih
      rw [boltingref04_Row.l1, if_pos (by omega), if_pos (by omega), if_pos (by omega), if_pos (by omega), if_pos (by omega), if_neg he, w64n (by omega)]
theorem row_l0 (f0 f1 : Int) (f2 f3 : ByteArray) (l : List AttT) (hl : l.length ≤ 4611686018427387904) : ∀ (d i : Nat), i + d = l.length →
    Ev (fun k => boltingref04_Row.l0 k (i : Int) f0 f1 f2 f3 l) (!dupFrom l i && (decide (f1 = 0) && (!(f2.toList == []) && f3.toList == [])))
  | 0, i, hi => by
    have : dupFrom l i = false := by simp [dupFrom, show l.length - i = 0 by omega]
    rw [this]
    refine evK (fun k => ?_)
    rw [boltingref04_Row.l0, if_neg (by omega)]
    by_cases h1 : f1 = 0
    · rw [if_pos h1]
      by_cases h2 : f2.toList = []
      · rw [if_pos h2]; simp [h1, h2]
      · rw [if_neg h2]; simp [h1, h2]
    · rw [if_neg h1]; simp [h1]
  | d + 1, i, hi => by
    have hlt : i < l.length := by omega
    have hd : dupFrom l i = (dupIn l i 0 || dupFrom l (i + 1)) := by
      unfold dupFrom
      rw [range'_cons hlt, List.any_cons]
    have := row_l1 f0 f1 f2 f3 l hl _ i hlt (row_l0 f0 f1 f2 f3 l hl d (i + 1) (by omega)) i 0 (by omega)
    rw [hd, Bool.not_or, Bool.and_assoc]
    refine evI (fun k => ?_) this
    rw [boltingref04_Row.l0, if_pos (by omega)]
    rfl
theorem rRow_is (x : RowT) (hl : x.f4.length ≤ 4611686018427387904) : Ev (fun k => boltingref04_Row.f k x.f0 x.f1 x.f2 x.f3 x.f4) (rowB x) := by
  have hy : ∀ k, boltingref04_Row.j0 (k + 1) true x.f0 x.f1 x.f2 x.f3 x.f4 = some (x.f2.toList == [] && x.f4.length == 0) := fun k => by
    rw [boltingref04_Row.j0, if_pos rfl]
    by_cases h2 : x.f2.toList = []
    · rw [if_pos h2, h2]
      congr 1
      rw [Bool.eq_iff_iff]; simp
    · rw [if_neg h2]; simp [h2]
  by_cases h1 : x.f1 = 1
  · refine Ev.congr (f := fun k => boltingref04_Row.j0 k true x.f0 x.f1 x.f2 x.f3 x.f4) (fun k => by unfold boltingref04_Row.f; rw [if_pos h1]) (evK fun k => ?_)
    rw [hy k, rowB, if_pos (.inl h1)]
  · by_cases h2 : x.f1 = 2
    · refine Ev.congr (f := fun k => boltingref04_Row.j0 k true x.f0 x.f1 x.f2 x.f3 x.f4) (fun k => by unfold boltingref04_Row.f; rw [if_neg h1, beq_iff_eq.2 h2]) (evK fun k => ?_)
      rw [hy k, rowB, if_pos (.inr h2)]
    · refine Ev.congr (f := fun k => boltingref04_Row.j0 k false x.f0 x.f1 x.f2 x.f3 x.f4) (fun k => by unfold boltingref04_Row.f; rw [if_neg h1, beq_eq_false_iff_ne.2 h2]) ?_
      have := row_l0 x.f0 x.f1 x.f2 x.f3 x.f4 hl x.f4.length 0 (by omega)
      rw [rowB, if_neg (by omega)]
      refine evI (fun k => ?_) this
      rw [boltingref04_Row.j0, if_neg (by decide)]
      rfl
theorem rowB_kind {x : RowT} (h : rowB x = true) : x.f1 = 0 ∨ x.f1 = 1 ∨ x.f1 = 2 := by
  unfold rowB at h
  split at h
  · omega
  · simp at h; exact .inl h.2.1
def dep (l : List RowT) (j : Nat) : Int := (rd_T35 l (j : Int)).f0
def knd (l : List RowT) (j : Nat) : Int := (rd_T35 l (j : Int)).f1
def rightAt (l : List RowT) (j : Nat) : Bool :=
  rowB (rd_T35 l (j : Int)) && (decide (0 ≤ dep l j) && (if j = 0 then decide (dep l j = 0) else (decide (dep l j ≤ dep l (j - 1) + 1) && (!decide (dep l j = dep l (j - 1) + 1) || decide (knd l (j - 1) = 0)))))
def rightB (l : List RowT) : Bool := (List.range' 0 l.length).all (rightAt l)
theorem right_deps {l : List RowT} {n : Nat} (h : ∀ i, i < n → rightAt l i = true) : ∀ i, i < n → 0 ≤ dep l i ∧ dep l i ≤ i
  | 0, hi => by
    have := h 0 hi
    simp [rightAt] at this
    omega
  | i + 1, hi => by
    have h1 := h (i + 1) hi
    have h2 := right_deps h i (by omega)
    simp [rightAt] at h1
    omega
theorem right_loop (l : List RowT) (hl : l.length ≤ 4611686018427387904) (ha : ∀ x ∈ l, x.f4.length ≤ 4611686018427387904) : ∀ (d j : Nat), j + d = l.length → (∀ i, i < j → rightAt l i = true) →
    Ev (fun k => boltingref04_Right.l0 k l (j : Int)) ((List.range' j d).all (rightAt l))
  | 0, j, hj, hok => by
    refine evK (fun k => ?_)
    rw [boltingref04_Right.l0, if_neg (by omega)]
    rfl
  | d + 1, j, hj, hok => by
    have hlt : j < l.length := by omega
    have hrow := rRow_is (rd_T35 l (j : Int)) (by rw [rdR_at hlt]; exact ha _ (List.getElem_mem hlt))
    refine evI (f := fun k => (boltingref04_Row.f k (rd_T35 l (j : Int)).f0 (rd_T35 l (j : Int)).f1 (rd_T35 l (j : Int)).f2 (rd_T35 l (j : Int)).f3 (rd_T35 l (j : Int)).f4).bind fun t => (if t = true then (if dep l j < 0 then (boltingref04_Right.j1 k l j (dep l j) true) else (if (j : Int) = 0 then (boltingref04_Right.j1 k l j (dep l j) (dep l j != 0)) else (boltingref04_Right.j1 k l j (dep l j) false))) else (boltingref04_Right.j1 k l j (dep l j) true))) (fun k => ?_) (Ev.bind hrow ?_)
    · rw [boltingref04_Right.l0, if_pos (by omega), if_pos (by omega)]
      rfl
    rw [List.range'_succ, List.all_cons]
    have hno : Ev (fun k => boltingref04_Right.j1 k l (j : Int) (dep l j) true) false := evK (fun k => by rw [boltingref04_Right.j1, if_pos rfl])
    by_cases h1 : rowB (rd_T35 l (j : Int)) = true
    · by_cases h2 : dep l j < 0
      · have : rightAt l j = false := by unfold rightAt; rw [h1, decide_eq_false (by omega)]; rfl
        rw [this]
        exact Ev.congr (fun k => by rw [h1, if_pos rfl, if_pos h2]) hno
      · by_cases h3 : j = 0
        · subst h3
          by_cases h4 : dep l 0 = 0
          · have hat : rightAt l 0 = true := by unfold rightAt; rw [h1, h4]; rfl
            rw [hat, Bool.true_and]
            have ih := right_loop l hl ha d 1 (by omega) (fun i hi => by rw [show i = 0 by omega]; exact hat)
            refine Ev.congr (f := fun k => boltingref04_Right.j1 k l 0 (dep l 0) false) (fun k => by rw [h1, if_pos rfl, if_neg h2, if_pos Int.natCast_zero, bne_eq_false_iff_eq.2 h4]; rfl) (evI (fun k => ?_) ih)
            rw [boltingref04_Right.j1, if_neg (by decide), if_neg (by decide), show wrap64 ((0 : Int) + 1) = ((1 : Nat) : Int) by unfold wrap64; omega]
          · have hat : rightAt l 0 = false := by unfold rightAt; rw [if_pos rfl, decide_eq_false h4]; simp
            rw [hat]
            exact Ev.congr (fun k => by rw [h1, if_pos rfl, if_neg h2, if_pos Int.natCast_zero, bne_iff_ne.2 h4]) hno
        · obtain ⟨i, rfl⟩ : ∃ i, j = i + 1 := ⟨j - 1, by omega⟩
          have hb := right_deps hok i (by omega)
          have hw : wrap64 (((i + 1 : Nat) : Int) - 1) = (i : Int) := by unfold wrap64; omega
          have hw2 : wrap64 (dep l i + 1) = dep l i + 1 := by unfold wrap64; omega
          have hj1 : ∀ k, boltingref04_Right.j1 (k + 1) l ((i + 1 : Nat) : Int) (dep l (i + 1)) false = if dep l (i + 1) > dep l i + 1 then some false else if dep l (i + 1) = dep l i + 1 then (if knd l i = 0 then boltingref04_Right.l0 k l ((i + 1 + 1 : Nat) : Int) else some false) else boltingref04_Right.l0 k l ((i + 1 + 1 : Nat) : Int) := fun k => by
            rw [boltingref04_Right.j1, if_neg (by decide), if_pos (by omega), hw, if_pos (by omega), if_pos (by omega), w64n (by omega)]
            show (if dep l (i + 1) > wrap64 (dep l i + 1) then _ else if dep l (i + 1) = wrap64 (dep l i + 1) then _ else _) = _
            rw [hw2]
            rfl
          refine Ev.congr (f := fun k => boltingref04_Right.j1 k l ((i + 1 : Nat) : Int) (dep l (i + 1)) false) (fun k => by rw [h1, if_pos rfl, if_neg h2, if_neg (by omega)]) ?_
          by_cases h5 : dep l (i + 1) > dep l i + 1
          · have hat : rightAt l (i + 1) = false := by unfold rightAt; rw [if_neg (by omega), Nat.add_sub_cancel, decide_eq_false (show ¬ dep l (i + 1) ≤ dep l i + 1 by omega)]; simp
            rw [hat]
            exact evK (fun k => by rw [hj1, if_pos h5]; rfl)
          · by_cases h6 : dep l (i + 1) = dep l i + 1 ∧ knd l i ≠ 0
            · have hat : rightAt l (i + 1) = false := by unfold rightAt; rw [if_neg (by omega), Nat.add_sub_cancel, decide_eq_true h6.1, decide_eq_false h6.2]; simp
              rw [hat]
              exact evK (fun k => by rw [hj1, if_neg h5, if_pos h6.1, if_neg h6.2]; rfl)
            · have hat : rightAt l (i + 1) = true := by
                unfold rightAt
                rw [if_neg (by omega), Nat.add_sub_cancel, h1, decide_eq_true (show 0 ≤ dep l (i + 1) by omega), decide_eq_true (show dep l (i + 1) ≤ dep l i + 1 by omega)]
                by_cases h7 : dep l (i + 1) = dep l i + 1
                · rw [decide_eq_true h7, decide_eq_true (show knd l i = 0 by exact Classical.not_not.1 fun h => h6 ⟨h7, h⟩)]; rfl
                · rw [decide_eq_false h7]; rfl
              rw [hat, Bool.true_and]
              have ih := right_loop l hl ha d (i + 1 + 1) (by omega) (fun i' hi => by
                by_cases e : i' = i + 1
                · rw [e]; exact hat
                · exact hok i' (by omega))
              refine evI (fun k => ?_) ih
              rw [hj1, if_neg h5]
              by_cases h7 : dep l (i + 1) = dep l i + 1
              · rw [if_pos h7, if_pos (Classical.not_not.1 fun h => h6 ⟨h7, h⟩)]
              · rw [if_neg h7]
    · rw [Bool.not_eq_true] at h1
      have : rightAt l j = false := by unfold rightAt; rw [h1]; rfl
      rw [this]
      exact Ev.congr (fun k => by rw [h1, if_neg (by decide)]) hno
theorem rRight_is (l : List RowT) (hl : l.length ≤ 4611686018427387904) (ha : ∀ x ∈ l, x.f4.length ≤ 4611686018427387904) : Ev (fun k => boltingref04_Right.f k l) (rightB l) :=
  right_loop l hl ha l.length 0 (by omega) (fun i hi => by omega)
theorem right_at {l : List RowT} (h : rightB l = true) {j : Nat} (hj : j < l.length) : rightAt l j = true := by
  unfold rightB at h
  rw [List.all_eq_true] at h
  exact h j (by rw [List.mem_range'_1]; omega)
theorem right_kind {l : List RowT} (h : rightB l = true) {j : Nat} (hj : j < l.length) : knd l j = 0 ∨ knd l j = 1 ∨ knd l j = 2 := by
  have := right_at h hj
  unfold rightAt at this
  rw [Bool.and_eq_true] at this
  exact rowB_kind this.1
theorem right_dep {l : List RowT} (h : rightB l = true) {j : Nat} (hj : j < l.length) : 0 ≤ dep l j ∧ dep l j ≤ j := right_deps (n := l.length) (fun i hi => right_at h hi) j hj
theorem right_next {l : List RowT} (h : rightB l = true) {j : Nat} (hj : j + 1 < l.length) : dep l (j + 1) ≤ dep l j + 1 ∧ (dep l (j + 1) = dep l j + 1 → knd l j = 0) := by
  have := right_at h hj
  simp [rightAt] at this
  refine ⟨this.2.2.1, fun e => this.2.2.2.resolve_left (fun hn => hn e)⟩
end Go.Proofs.YtpnhjipaeggcpaaDoor.X
end
section
namespace Go.Proofs.YtpnhjipaeggcpaaDoor.X
open Go.RowKit Go.Proofs.YtpnhjipaeggcpaaDoorW.PrintWords Go.Proofs.YtpnhjipaeggcpaaDoorW.PrintLast Go.Proofs.YtpnhjipaeggcpaaDoorW.PrintMore
theorem deep_in (d : Int) : ∀ (L : List RowT) (j : Nat), j < runDeep d L → ∃ h : j < L.length, d < L[j].f0
  | [], j, h => by simp [runDeep] at h
  | x :: r, j, h => by
    unfold runDeep at h
    split at h
    · rename_i hx
      cases j with
      | zero => exact ⟨by simp, hx⟩
      | succ j =>
        obtain ⟨h1, h2⟩ := deep_in d r j (by omega)
        exact ⟨by simp; omega, by simpa using h2⟩
    · omega
theorem deep_out (d : Int) : ∀ (L : List RowT) (h : runDeep d L < L.length), L[runDeep d L].f0 ≤ d
  | [], h => by simp at h
  | x :: r, h => by
    by_cases hx : x.f0 > d
    · have e : runDeep d (x :: r) = runDeep d r + 1 := by rw [runDeep, if_pos hx]
      have h1 : runDeep d r < r.length := by rw [e] at h; simpa using h
      have := deep_out d r h1
      simp only [e, List.getElem_cons_succ]
      exact this
    · have e : runDeep d (x :: r) = 0 := by rw [runDeep, if_neg hx]
      simp only [e, List.getElem_cons_zero]
      omega
theorem end_in {l : List RowT} {i j : Nat} (h1 : i < j) (h2 : j < endOf l i) : dep l i < dep l j := by
  unfold endOf at h2
  obtain ⟨h3, h4⟩ := deep_in _ _ (j - (i + 1)) (show j - (i + 1) < runDeep (rd_T35 l (i : Int)).f0 (l.drop (i + 1)) by omega)
  rw [List.length_drop] at h3
  rw [List.getElem_drop] at h4
  have hj : j < l.length := by omega
  unfold dep
  rw [rdR_at hj]
  simpa [show i + 1 + (j - (i + 1)) = j by omega] using h4
theorem end_out {l : List RowT} {i : Nat} (h : endOf l i < l.length) : dep l (endOf l i) ≤ dep l i := by
  have h1 : runDeep (rd_T35 l (i : Int)).f0 (l.drop (i + 1)) < (l.drop (i + 1)).length := by rw [List.length_drop]; unfold endOf at h; omega
  have h2 := deep_out _ _ h1
  rw [List.getElem_drop] at h2
  show (rd_T35 l ((endOf l i : Nat) : Int)).f0 ≤ _
  rw [rdR_at h]
  exact h2
theorem end_nest {l : List RowT} {i j : Nat} (hi : i < l.length) (h1 : i < j) (h2 : j < endOf l i) : endOf l j ≤ endOf l i := by
  have he := endOf_le l i hi
  have hj := endOf_le l j (by omega)
  have h3 := end_in h1 h2
  apply Nat.le_of_not_lt
  intro h
  have h4 := end_in h2 h
  have h5 := end_out (l := l) (i := i) (by omega)
  omega
theorem kidsGo_mem {l : List RowT} {e : Nat} : ∀ {g k : Nat} {j : Int}, j ∈ kidsGo l e g k → ∃ m : Nat, j = (m : Int) ∧ k ≤ m ∧ m < e
  | 0, k, j, h => by simp [kidsGo] at h
  | g + 1, k, j, h => by
    unfold kidsGo at h
    split at h
    · rename_i hk
      rcases List.mem_cons.1 h with rfl | h
      · exact ⟨k, rfl, Nat.le_refl _, hk⟩
      · obtain ⟨m, h1, h2, h3⟩ := kidsGo_mem h
        refine ⟨m, h1, ?_, h3⟩
        unfold endOf at h2
        omega
    · cases h
theorem range'_split {k m e : Nat} (h1 : k < m) (h2 : m ≤ e) : List.range' k (e - k) = k :: (List.range' (k + 1) (m - (k + 1)) ++ List.range' m (e - m)) := by
  rw [show e - k = (e - (k + 1)) + 1 by omega, List.range'_succ]
  congr 1
  rw [show e - (k + 1) = (m - (k + 1)) + (e - m) by omega, ← List.range'_append_1]
  congr 2
  omega
theorem kidsGo_is {l : List RowT} {t : Int} {e b : Nat} (he : e ≤ l.length) (hall : ∀ j, b ≤ j → j < e → t ≤ dep l j) (hnest : ∀ j, b ≤ j → j < e → endOf l j ≤ e) : ∀ (g k : Nat), b ≤ k → e - k ≤ g → (k < e → dep l k = t) →
    kidsGo l e g k = ((List.range' k (e - k)).filter fun j => dep l j == t).map fun (j : Nat) => (j : Int)
  | 0, k, hb, hg, hk => by rw [show e - k = 0 by omega]; rfl
  | g + 1, k, hb, hg, hk => by
    unfold kidsGo
    split
    · rename_i hlt
      have h1 := endOf_le l k (by omega)
      have h2 := hnest k hb hlt
      have hd := hk hlt
      rw [range'_split h1.1 h2, List.filter_cons_of_pos (by simpa using hd), List.map_cons, List.filter_append, List.map_append]
      have hmid : (List.range' (k + 1) (endOf l k - (k + 1))).filter (fun j => dep l j == t) = [] := by
        rw [List.filter_eq_nil_iff]
        intro j hj
        rw [List.mem_range'_1] at hj
        have := end_in (l := l) (i := k) (j := j) (by omega) (by omega)
        simp
        omega
      rw [hmid, List.map_nil, List.nil_append, kidsGo_is he hall hnest g (endOf l k) (by omega) (by omega) (fun h => by
        have h3 := end_out (l := l) (i := k) (by omega)
        have h4 := hall (endOf l k) (by omega) h
        omega)]
    · rw [show e - k = 0 by omega]; rfl
theorem kids_same {l : List RowT} (hr : rightB l = true) (hl : l.length ≤ 4611686018427387904) {i : Int} (hi : i = -1 ∨ (0 ≤ i ∧ i < (l.length : Int))) : rkTo l i l.length = kidsOf l i := by
  rcases hi with rfl | ⟨h0, h1⟩
  · unfold kidsOf
    rw [if_pos rfl, kidsGo_is (t := 0) (b := 0) (Nat.le_refl _) (fun j _ hj => (right_dep hr hj).1) (fun j _ hj => (endOf_le l j hj).2) l.length 0 (Nat.le_refl _) (by omega) (fun h => by have := right_dep hr h; omega)]
    unfold rkTo
    rw [List.range_eq_range', Nat.sub_zero]
    congr 1
  · obtain ⟨m, rfl⟩ := Int.eq_ofNat_of_zero_le h0
    have hm : m < l.length := by omega
    have he := endOf_le l m hm
    have hre : rEnd l (m : Int) = (endOf l m : Int) := by unfold rEnd; rw [if_pos ⟨by omega, by omega⟩]; rfl
    have hdm := right_dep hr hm
    unfold kidsOf
    rw [if_neg (by omega), hre, show ((endOf l m : Nat) : Int).toNat = endOf l m from rfl, show ((m : Nat) : Int).toNat = m from rfl]
    rw [kidsGo_is (t := dep l m + 1) (b := m + 1) he.2 (fun j h1 h2 => by have := end_in (l := l) (i := m) (j := j) (by omega) h2; omega) (fun j h1 h2 => end_nest hm (by omega) h2) l.length (m + 1) (Nat.le_refl _) (by omega) (fun h => by
      have h2 := end_in (l := l) (i := m) (j := m + 1) (by omega) h
      have h3 := right_next hr (j := m) (by omega)
      omega)]
    unfold rkTo
    have hok : ∀ k, rkOk l (m : Int) k = (decide (m < k) && (decide (k < endOf l m) && (dep l k == dep l m + 1))) := fun k => by
      unfold rkOk
      rw [if_neg (by omega), hre]
      have hw : wrap64 ((rd_T35 l (m : Int)).f0 + 1) = dep l m + 1 := by show wrap64 (dep l m + 1) = _; unfold wrap64; omega
      rw [hw]
      congr 1
      · rw [decide_eq_decide]; omega
      · congr 1
        rw [decide_eq_decide]; omega
    have h1 : (List.range' 0 (m + 1)).filter (rkOk l (m : Int)) = [] := by
      rw [List.filter_eq_nil_iff]
      intro j hj
      rw [List.mem_range'_1] at hj
      rw [hok, decide_eq_false (show ¬ m < j by omega)]; simp
    have h3 : (List.range' (endOf l m) (l.length - endOf l m)).filter (rkOk l (m : Int)) = [] := by
      rw [List.filter_eq_nil_iff]
      intro j hj
      rw [List.mem_range'_1] at hj
      rw [hok, decide_eq_false (show ¬ j < endOf l m by omega)]; simp
    have h2 : (List.range' (m + 1) (endOf l m - (m + 1))).filter (rkOk l (m : Int)) = (List.range' (m + 1) (endOf l m - (m + 1))).filter fun j => dep l j == dep l m + 1 := by
      apply List.filter_congr
      intro j hj
      rw [List.mem_range'_1] at hj
      rw [hok, decide_eq_true (show m < j by omega), decide_eq_true (show j < endOf l m by omega)]; simp
    have hs : List.range l.length = List.range' 0 (m + 1) ++ (List.range' (m + 1) (endOf l m - (m + 1)) ++ List.range' (endOf l m) (l.length - endOf l m)) := by
      rw [List.range_eq_range']
      have := range'_split (k := 0) (m := m + 1) (e := l.length) (by omega) (by omega)
      rw [Nat.sub_zero] at this
      rw [this, show List.range' 0 (m + 1) = 0 :: List.range' 1 m from List.range'_succ ..]
      rw [show m + 1 - (0 + 1) = m by omega, List.cons_append]
      congr 2
      have h := range'_split (k := m) (m := endOf l m) (e := l.length) (by omega) (by omega)
      rw [show l.length - m = (l.length - (m + 1)) + 1 by omega, List.range'_succ] at h
      exact (List.cons.inj h).2
    rw [hs, List.filter_append, List.filter_append, h1, h2, h3]
    simp
theorem kidsOf_mem {l : List RowT} {i : Int} (hi : i = -1 ∨ (0 ≤ i ∧ i < (l.length : Int))) {j : Int} (h : j ∈ kidsOf l i) : ∃ m : Nat, j = (m : Int) ∧ i < j ∧ m < l.length := by
  unfold kidsOf at h
  split at h
  · obtain ⟨m, h1, h2, h3⟩ := kidsGo_mem h
    exact ⟨m, h1, by omega, h3⟩
  · obtain ⟨m, h1, h2, h3⟩ := kidsGo_mem h
    obtain ⟨n, rfl⟩ := Int.eq_ofNat_of_zero_le (show 0 ≤ i by omega)
    have he := endOf_le l n (by omega)
    have hre : rEnd l (n : Int) = (endOf l n : Int) := by unfold rEnd; rw [if_pos ⟨by omega, by omega⟩]; rfl
    rw [hre] at h3
    exact ⟨m, h1, by omega, by omega⟩
end Go.Proofs.YtpnhjipaeggcpaaDoor.X
end
section
namespace Go.Proofs.YtpnhjipaeggcpaaDoor.X
open Go.RowKit Go.Proofs.YtpnhjipaeggcpaaDoorW.PrintWords Go.Proofs.YtpnhjipaeggcpaaDoorW.PrintLast Go.Proofs.YtpnhjipaeggcpaaDoorW.PrintMore
def wIns (b : Nat) : Value := .func (.func 34) #[] #[.pointer (some ⟨b, 0, none⟩), .pointer (some ⟨b + 1 + 1, 0, none⟩)]
def wNds (b : Nat) : Value := .func (.func 36) #[] #[.pointer (some ⟨b, 0, none⟩), .pointer (some ⟨b + 1, 0, none⟩), .pointer (some ⟨b + 1 + 1 + 1, 0, none⟩)]
def wBoxes (A : Option Addr) (n c : Nat) (w : World) : World := (((w.alloc (.cells #[.slice A n c] 22)).alloc (.cells #[.pointer none, .slice none 0 0] 54)).alloc (.cells #[wNds w.heap.size] 55)).alloc (.cells #[wIns w.heap.size] 55)
theorem wInv_start (A : Option Addr) (n c : Nat) (w : World) : WInv A n c w.heap.size w (wBoxes A n c w) [] := by
  have h0 := (((Boxed.new w 22 (.slice A n c)).alloc (.cells #[.pointer none, .slice none 0 0] 54)).alloc (.cells #[wNds w.heap.size] 55)).alloc (.cells #[wIns w.heap.size] 55)
  have h1 := World.alloc_heap_new (w.alloc (.cells #[.slice A n c] 22)) (.cells #[.pointer none, .slice none 0 0] 54)
  have h2 := (Boxed.new ((w.alloc (.cells #[.slice A n c] 22)).alloc (.cells #[.pointer none, .slice none 0 0] 54)) 55 (wNds w.heap.size)).alloc (.cells #[wIns w.heap.size] 55)
  have h3 := Boxed.new (((w.alloc (.cells #[.slice A n c] 22)).alloc (.cells #[.pointer none, .slice none 0 0] 54)).alloc (.cells #[wNds w.heap.size] 55)) 55 (wIns w.heap.size)
  simp only [World.size_alloc] at h1 h2 h3
  refine ⟨((((Below.refl _ w).alloc (Nat.le_refl _) _).alloc (by simp) _).alloc (by simp; omega) _).alloc (by simp; omega) _, h0, h2, h3, .inl ⟨Nat.le_refl _, .slice none 0 0, ?_, ⟨rfl, .inl ⟨rfl, rfl⟩⟩, by simp [Value.ownBlock]⟩⟩
  exact (Below.heap_alloc _ _ _ (by simp)).trans ((Below.heap_alloc _ _ _ (by simp)).trans h1)
set_option maxHeartbeats 8000000 in
set_option maxRecDepth 100000 in
theorem write_written.calls (A0 : Option Addr) (c0 : Nat) (l0 : List S35) (a1 : Int) (r : ByteArray) (w : World) (hr0 : Kd.C k35 w A0 l0.length l0) (hc0 : l0.length ≤ c0) (h : write_written.f l0 a1 = some r) :
    Calls Tryd.prog 20 #[.slice A0 l0.length c0, .int .i64 a1] w fun e w' => e = .returned (.string r) ∧ Below w.heap.size w w' := by
  obtain ⟨raw, hraw, h⟩ := Option.bind_eq_some_iff.1 h
  obtain ⟨out, hout, h⟩ := Option.bind_eq_some_iff.1 h
  cases h
  have hu := Tryd.underlying35
  have hwi := fun V hV => within_ok A0 c0 l0 w hr0 hc0 (l0.length + 1) (node_ok A0 c0 l0 w hr0 hc0 (l0.length + 1)) a1 raw [] out V hV hout
  have hI0 := wInv_start A0 l0.length c0 w
  have hst := fun V (hV : WInv A0 l0.length c0 w.heap.size w V out) => string_any (w.heap.size + 1) (w.heap.size + 1) out V hV.bld (by have := (Array.getElem?_eq_some_iff.1 hV.within).1; omega)
  by_cases hneg : a1 ≥ 0
  · rw [if_pos hneg] at hraw
    split at hraw
    case isFalse => cases hraw
    rename_i hlt
    obtain ⟨kk, rfl⟩ := Int.eq_ofNat_of_zero_le hneg
    obtain ⟨⟨xd, xk, xn, xt, xa⟩, hx, hxe⟩ := getD_at (show kk < l0.length by omega)
    have hrd : rd_T35 l0 (kk : Int) = ⟨xd, xk, xn, xt, xa⟩ := by simp [rd_T35, hx]
    rw [hrd] at hraw
    obtain ⟨ad, A4, c4, e, x0, x1, x2, x3, x4, l4, hC4⟩ := row_at (Kd.C_below hr0 hI0.below) hx
    cases e
    dsimp only at *
    have hrw := fun V => names_Raw.calls 64 xn raw V hraw
    clear hx hxe hrd hraw hout hr0 x0 x1 x3 x4 hC4
    go_enter Tryd.func20, Tryd.ntmps20
    go_wp2
    change Code.wp _ _ _ _ (wBoxes (some ad) l0.length c0 w)
    have cl : (wBoxes (some ad) l0.length c0 w).cell? ⟨w.heap.size, 0, none⟩ = _ := kids_block hI0.l rfl
    have cw : (wBoxes (some ad) l0.length c0 w).cell? ⟨w.heap.size + 1 + 1 + 1, 0, none⟩ = _ := kids_block hI0.within rfl
    generalize wBoxes (some ad) l0.length c0 w = W4 at *
    have HI := Aside0.mk hI0
    clear hI0
    go_region_with (first | (go_at_call 40; refine (hrw _).mono ?_; rintro e W6 ⟨rfl, hb6⟩; have hI6 := HI.out.move (W' := W6) ⟨hb6.os, hb6.tape, hb6.output, hb6.size, hb6.block⟩; have w6 : W6.cell? ⟨w.heap.size + 1 + 1 + 1, 0, none⟩ = _ := kids_block hI6.within rfl) | (go_at_call 34; refine (hwi _ hI6).mono ?_; rintro e W7 ⟨rfl, hI7, hk7⟩))
    all_goals
      have hs7 := hst W7 hI7
      have HB7 := Aside0.mk hI7.below
      go_wp2_with (go_at_call 41; refine hs7.mono ?_; clear hs7; rintro e W8 ⟨rfl, hb8⟩)
      go_ret
      exact ⟨rfl, HB7.out.trans (hb8.mono (by omega))⟩
  · rw [if_neg hneg] at hraw
    split at hraw
    case isFalse => cases hraw
    rename_i hm1
    subst hm1
    cases hraw
    go_enter Tryd.func20, Tryd.ntmps20
    go_wp2
    change Code.wp _ _ _ _ (wBoxes A0 l0.length c0 w)
    have cw : (wBoxes A0 l0.length c0 w).cell? ⟨w.heap.size + 1 + 1 + 1, 0, none⟩ = _ := kids_block hI0.within rfl
    generalize wBoxes A0 l0.length c0 w = W4 at *
    have hI1 : WInv A0 l0.length c0 w.heap.size w W4.drew [] := hI0.move (Below.refl _ W4).drew
    go_still_tail 12, (by kernel_rfl)
    change wpList _ _ _ _ _ W4.drew
    generalize W4.drew = W5 at *
    go_wp2_with (go_at_call 34; refine (hwi _ hI1).mono ?_; rintro e W7 ⟨rfl, hI7, hk7⟩)
    all_goals
      have hs7 := hst W7 hI7
      have HB7 := Aside0.mk hI7.below
      go_wp2_with (go_at_call 41; refine hs7.mono ?_; clear hs7; rintro e W8 ⟨rfl, hb8⟩)
      go_ret
      exact ⟨rfl, HB7.out.trans (hb8.mono (by omega))⟩
end Go.Proofs.YtpnhjipaeggcpaaDoor.X
end
section
namespace Go.Proofs.YtpnhjipaeggcpaaDoor.X
open Go.RowKit Go.Proofs.YtpnhjipaeggcpaaDoorW.PrintWords Go.Proofs.YtpnhjipaeggcpaaDoorW.PrintLast Go.Proofs.YtpnhjipaeggcpaaDoorW.PrintMore
attribute [local go_sem] max2_int min2_int max_two min_two max_three min_three max_four min_four
def write_Rows.f (l0 : List (S35)) : Option (ByteArray) := (write_written.f l0 (-1)).bind fun t123 => (some t123)
set_option maxHeartbeats 8000000 in
set_option maxRecDepth 100000 in
theorem write_Rows.calls (A0 : Option Addr) (c0 : Nat) (l0 : List (S35)) (r : ByteArray) (w : World) (hr0 : Kd.C k35 w A0 l0.length l0) (hc0 : l0.length ≤ c0) (h : write_Rows.f l0 = some r) :
  Calls Tryd.prog 9 #[.slice A0 l0.length c0] w fun e w' => e = .returned (.string r) ∧ Below w.heap.size w w' := by
 have HR0 := Aside0.mk hr0
 have HC0 := Aside0.mk hc0
 clear hr0 hc0
 have HB := Aside0.mk (Below.refl w.heap.size w)
 have H : ((write_written.f l0 (-1)).bind fun t123 => (some t123)) = some r := h
 clear h
 replace H := Option.bind_eq_some_iff.mp H
 obtain ⟨t123, A20, H⟩ := H
 have A2 := Aside0.mk A20
 clear A20
 obtain rfl := Option.some.inj H
 go_enter Tryd.func9, Tryd.ntmps9
 go_wp2_with (first | ((with_reducible refine gate_callee (f := 20) rfl ?_); refine goesL_ (some 4) rfl rfl Tryd.func20 (by kernel_rfl) rfl #[.slice A0 l0.length c0, .int .i64 (-1)] rfl y14_ ?_; (with_reducible refine (write_written.calls _ _ l0 (-1) t123 _ ?side1 ?side2 A2.out).mono ?_); (case side1 => repeat (first | exact HR0.out | (with_reducible refine Kd.C_alloc ?_ _) | (with_reducible refine Kd.C_drewN ?_ _) | (with_reducible refine Kd.C_drew ?_))); (case side2 => exact HC0.out); rintro e w3 ⟨rfl, hb⟩; refine ⟨_, rfl, ?_⟩; have n0_ := Aside0.mk (below_step y13_ hb); clear HB; have HB := n0_; clear n0_; (try clear hb); (try clear hb2); (try clear hk); (try clear hi)))
 go_ret
 exact ⟨y11_, y13_⟩
end Go.Proofs.YtpnhjipaeggcpaaDoor.X
end
section
namespace Go.Proofs.YtpnhjipaeggcpaaDoor.X
open Go.RowKit Go.Proofs.YtpnhjipaeggcpaaDoorW.PrintWords Go.Proofs.YtpnhjipaeggcpaaDoorW.PrintLast Go.Proofs.YtpnhjipaeggcpaaDoorW.PrintMore
attribute [local go_sem] max2_int min2_int max_two min_two max_three min_three max_four min_four
def write_Inside.f (k : Nat) (l0 : List (S35)) (a1 : Int) : Option (ByteArray) := if a1 = (-1) then ((write_written.f l0 a1).bind fun t190 => (some t190)) else (if a1 < 0 then (some (⟨#[]⟩ : ByteArray)) else (if a1 ≥ (l0.length : Int) then (some (⟨#[]⟩ : ByteArray)) else (if 0 ≤ a1 then (if a1 < (l0.length : Int) then (if ((rd_T35 l0 a1).f1) = 0 then ((names_Void.f k ((rd_T35 l0 a1).f2)).bind fun t193 => (if t193 = true then (some (⟨#[]⟩ : ByteArray)) else ((write_written.f l0 a1).bind fun t194 => (some t194)))) else (some (⟨#[]⟩ : ByteArray))) else (none)) else (none))))
set_option maxHeartbeats 8000000 in
set_option maxRecDepth 100000 in
theorem write_Inside.calls (k : Nat) (A0 : Option Addr) (c0 : Nat) (l0 : List (S35)) (a1 : Int) (r : ByteArray) (w : World) (hr0 : Kd.C k35 w A0 l0.length l0) (hc0 : l0.length ≤ c0) (h : write_Inside.f k l0 a1 = some r) :
  Calls Tryd.prog 11 #[.slice A0 l0.length c0, .int .i64 a1] w fun e w' => e = .returned (.string r) ∧ Below w.heap.size w w' := by
 have HR0 := Aside0.mk hr0
 have HC0 := Aside0.mk hc0
 clear hr0 hc0
 have HB := Aside0.mk (Below.refl w.heap.size w)
 have H : (if a1 = (-1) then ((write_written.f l0 a1).bind fun t190 => (some t190)) else (if a1 < 0 then (some (⟨#[]⟩ : ByteArray)) else (if a1 ≥ (l0.length : Int) then (some (⟨#[]⟩ : ByteArray)) else (if 0 ≤ a1 then (if a1 < (l0.length : Int) then (if ((rd_T35 l0 a1).f1) = 0 then ((names_Void.f k ((rd_T35 l0 a1).f2)).bind fun t193 => (if t193 = true then (some (⟨#[]⟩ : ByteArray)) else ((write_written.f l0 a1).bind fun t194 => (some t194)))) else (some (⟨#[]⟩ : ByteArray))) else (none)) else (none))))) = some r := h
 clear h
 by_cases c3 : a1 = (-1)
 ·rw [if_pos c3] at H
  have c3b0 : (a1 == (-1)) = true := beq_iff_eq.mpr c3
  have c3b1 : (a1 != (-1)) = false := bne_eq_false_iff_eq.mpr c3
  clear c3
  replace H := Option.bind_eq_some_iff.mp H
  obtain ⟨t190, A40, H⟩ := H
  have A4 := Aside0.mk A40
  clear A40
  obtain rfl := Option.some.inj H
  go_enter Tryd.func11, Tryd.ntmps11
  go_wp2_with (first | ((with_reducible refine gate_callee (f := 20) rfl ?_); refine goesL_ (some 35) rfl rfl Tryd.func20 (by kernel_rfl) rfl #[.slice A0 l0.length c0, .int .i64 a1] rfl y14_ ?_; (with_reducible refine (write_written.calls _ _ l0 a1 t190 _ ?side1 ?side2 A4.out).mono ?_); (case side1 => repeat (first | exact HR0.out | (with_reducible refine Kd.C_alloc ?_ _) | (with_reducible refine Kd.C_drewN ?_ _) | (with_reducible refine Kd.C_drew ?_))); (case side2 => exact HC0.out); rintro e w5 ⟨rfl, hb⟩; refine ⟨_, rfl, ?_⟩; have n0_ := Aside0.mk (below_step y13_ hb); clear HB; have HB := n0_; clear n0_; (try clear hb); (try clear hb2); (try clear hk); (try clear hi)))
  go_ret
  exact ⟨y11_, y13_⟩
 ·rw [if_neg c3] at H
  have c3b0 : (a1 == (-1)) = false := beq_eq_false_iff_ne.mpr c3
  have c3b1 : (a1 != (-1)) = true := bne_iff_ne.mpr c3
  by_cases c6 : a1 < 0
  ·rw [if_pos c6] at H
   have c6b0 : decide (a1 < 0) = true := decide_eq_true c6
   clear c6
   obtain rfl := Option.some.inj H
   go_enter Tryd.func11, Tryd.ntmps11
   go_wp2
   go_ret
   exact ⟨y11_, y13_⟩
  ·rw [if_neg c6] at H
   have c6b0 : decide (a1 < 0) = false := decide_eq_false c6
   clear c6
   by_cases c7 : a1 ≥ (l0.length : Int)
   ·rw [if_pos c7] at H
    have c7b0 : decide ((l0.length : Int) ≤ a1) = true := decide_eq_true c7
    clear c7
    obtain rfl := Option.some.inj H
    go_enter Tryd.func11, Tryd.ntmps11
    go_wp2
    go_ret
    exact ⟨y11_, y13_⟩
   ·rw [if_neg c7] at H
    have c7b0 : decide ((l0.length : Int) ≤ a1) = false := decide_eq_false c7
    clear c7
    by_cases c8 : 0 ≤ a1
    rotate_left
    ·rw [if_neg c8] at H
     exact absurd H (by simp)
    rw [if_pos c8] at H
    have c8b0 : decide (0 ≤ a1) = true := decide_eq_true c8
    clear c8
    by_cases c9 : a1 < (l0.length : Int)
    rotate_left
    ·rw [if_neg c9] at H
     exact absurd H (by simp)
    rw [if_pos c9] at H
    have c9b0 : decide (a1 < (l0.length : Int)) = true := decide_eq_true c9
    clear c9
    by_cases c10 : ((rd_T35 l0 a1).f1) = 0
    ·rw [if_pos c10] at H
     have c10b0 : (((rd_T35 l0 a1).f1) == 0) = true := beq_iff_eq.mpr c10
     have c10b1 : (((rd_T35 l0 a1).f1) != 0) = false := bne_eq_false_iff_eq.mpr c10
     clear c10
     replace H := Option.bind_eq_some_iff.mp H
     obtain ⟨t193, A110, H⟩ := H
     have A11 := Aside0.mk A110
     clear A110
     by_cases c12 : t193 = true
     ·subst c12
      rw [if_pos rfl] at H
      obtain rfl := Option.some.inj H
      have p191 : 0 ≤ (a1 : Int) := of_decide_eq_true y2_
      have q191 : a1 < (l0.length : Int) := of_decide_eq_true y2_
      obtain ⟨ad191, A191_4, c191_4, e191, hx191_0, hx191_1, hx191_2, hx191_3, hx191_4, hl191_4, hi191_4⟩ := at_T35 HR0.out a1 p191 q191
      cases e191
      have HR191_4 := Aside0.mk hi191_4
      have HC191_4 := Aside0.mk hl191_4
      clear hi191_4 hl191_4
      replace p191 := eq_true p191
      replace q191 := eq_true q191
      have p192 : 0 ≤ (a1 : Int) := of_decide_eq_true y2_
      have q192 : a1 < (l0.length : Int) := of_decide_eq_true y2_
      obtain ⟨ad192, A192_4, c192_4, e192, hx192_0, hx192_1, hx192_2, hx192_3, hx192_4, hl192_4, hi192_4⟩ := at_T35 HR0.out a1 p192 q192
      obtain rfl : ad191 = ad192 := (by injection e192)
      have HR192_4 := Aside0.mk hi192_4
      have HC192_4 := Aside0.mk hl192_4
      clear hi192_4 hl192_4
      replace p192 := eq_true p192
      replace q192 := eq_true q192
      have ea_ := Option.some.inj (hx191_4.symm.trans hx192_4)
      injection ea_ with ea_ en_ ec_
      subst ea_
      subst ec_
      clear en_
      go_enter Tryd.func11, Tryd.ntmps11
      go_wp2_with (first | (go_at_call 26; (with_reducible refine (names_Void.calls k ((rd_T35 l0 a1).f2) true _ A11.out).mono ?_); rintro e w13 ⟨rfl, hb⟩; have n0_ := Aside0.mk (below_step y13_ hb); clear HB; have HB := n0_; clear n0_; (try clear hb); (try clear hb2); (try clear hk); (try clear hi)))
      go_ret
      exact ⟨y11_, y13_⟩
     ·replace c12 := Bool.eq_false_iff.mpr c12
      subst c12
      rw [if_neg (show ¬ (false = true) by decide)] at H
      replace H := Option.bind_eq_some_iff.mp H
      obtain ⟨t194, A140, H⟩ := H
      have A14 := Aside0.mk A140
      clear A140
      obtain rfl := Option.some.inj H
      have p191 : 0 ≤ (a1 : Int) := of_decide_eq_true y2_
      have q191 : a1 < (l0.length : Int) := of_decide_eq_true y2_
      obtain ⟨ad191, A191_4, c191_4, e191, hx191_0, hx191_1, hx191_2, hx191_3, hx191_4, hl191_4, hi191_4⟩ := at_T35 HR0.out a1 p191 q191
      cases e191
      have HR191_4 := Aside0.mk hi191_4
      have HC191_4 := Aside0.mk hl191_4
      clear hi191_4 hl191_4
      replace p191 := eq_true p191
      replace q191 := eq_true q191
      have p192 : 0 ≤ (a1 : Int) := of_decide_eq_true y2_
      have q192 : a1 < (l0.length : Int) := of_decide_eq_true y2_
      obtain ⟨ad192, A192_4, c192_4, e192, hx192_0, hx192_1, hx192_2, hx192_3, hx192_4, hl192_4, hi192_4⟩ := at_T35 HR0.out a1 p192 q192
      obtain rfl : ad191 = ad192 := (by injection e192)
      have HR192_4 := Aside0.mk hi192_4
      have HC192_4 := Aside0.mk hl192_4
      clear hi192_4 hl192_4
      replace p192 := eq_true p192
      replace q192 := eq_true q192
      have ea_ := Option.some.inj (hx191_4.symm.trans hx192_4)
      injection ea_ with ea_ en_ ec_
      subst ea_
      subst ec_
      clear en_
      go_enter Tryd.func11, Tryd.ntmps11
      go_wp2_with (first | (go_at_call 26; (with_reducible refine (names_Void.calls k ((rd_T35 l0 a1).f2) false _ A11.out).mono ?_); rintro e w15 ⟨rfl, hb⟩; have n0_ := Aside0.mk (below_step y13_ hb); clear HB; have HB := n0_; clear n0_; (try clear hb); (try clear hb2); (try clear hk); (try clear hi)) | ((with_reducible refine gate_callee (f := 20) rfl ?_); refine goesL_ (some 35) rfl rfl Tryd.func20 (by kernel_rfl) rfl #[.slice (some ad191) l0.length c0, .int .i64 a1] rfl y14_ ?_; (with_reducible refine (write_written.calls _ _ l0 a1 t194 _ ?side1 ?side2 A14.out).mono ?_); (case side1 => repeat (first | exact (Kd.C_below HR0.out HB.out) | (with_reducible refine Kd.C_alloc ?_ _) | (with_reducible refine Kd.C_drewN ?_ _) | (with_reducible refine Kd.C_drew ?_))); (case side2 => exact HC0.out); rintro e w16 ⟨rfl, hb⟩; refine ⟨_, rfl, ?_⟩; have n0_ := Aside0.mk (below_step y13_ hb); clear HB; have HB := n0_; clear n0_; (try clear hb); (try clear hb2); (try clear hk); (try clear hi)))
      go_ret
      exact ⟨y11_, y13_⟩
    ·rw [if_neg c10] at H
     have c10b0 : (((rd_T35 l0 a1).f1) == 0) = false := beq_eq_false_iff_ne.mpr c10
     have c10b1 : (((rd_T35 l0 a1).f1) != 0) = true := bne_iff_ne.mpr c10
     obtain rfl := Option.some.inj H
     have p191 : 0 ≤ (a1 : Int) := of_decide_eq_true y2_
     have q191 : a1 < (l0.length : Int) := of_decide_eq_true y2_
     obtain ⟨ad191, A191_4, c191_4, e191, hx191_0, hx191_1, hx191_2, hx191_3, hx191_4, hl191_4, hi191_4⟩ := at_T35 HR0.out a1 p191 q191
     cases e191
     have HR191_4 := Aside0.mk hi191_4
     have HC191_4 := Aside0.mk hl191_4
     clear hi191_4 hl191_4
     replace p191 := eq_true p191
     replace q191 := eq_true q191
     go_enter Tryd.func11, Tryd.ntmps11
     go_wp2
     go_ret
     exact ⟨y11_, y13_⟩
end Go.Proofs.YtpnhjipaeggcpaaDoor.X
end
section
namespace Go.Proofs.YtpnhjipaeggcpaaDoor.X
open Go.RowKit Go.Proofs.YtpnhjipaeggcpaaDoorW.PrintWords Go.Proofs.YtpnhjipaeggcpaaDoorW.PrintLast Go.Proofs.YtpnhjipaeggcpaaDoorW.PrintMore
def voidL : List ByteArray := boltingref05_Void.f.getD []
def rawL : List ByteArray := boltingref05_Raw.f.getD []
theorem void_is (a : ByteArray) {k : Nat} (hk : 14 < k) : names_Void.f k a = some (inB voidL a) := by
  show (names_among.f k a voidL).bind some = _
  rw [among_is voidL a (by decide) hk]; rfl
theorem raw_is (a : ByteArray) {k : Nat} (hk : 6 < k) : names_Raw.f k a = some (inB rawL a) := by
  show (names_among.f k a rawL).bind some = _
  rw [among_is rawL a (by decide) hk]; rfl
def nodeT (l : List RowT) : Nat → Int → Bool → List UInt8
  | 0, _, _ => []
  | g + 1, k, raw =>
    if (rd_T35 l k).f1 = 1 then (if raw = true then (rd_T35 l k).f3.data.toList else escAll false (rd_T35 l k).f3.data.toList)
    else if (rd_T35 l k).f1 = 2 then [60, 33, 45, 45] ++ (rd_T35 l k).f3.data.toList ++ [45, 45, 62]
    else if inB voidL (rd_T35 l k).f2 = true then openTxt (rd_T35 l k).f2 (rd_T35 l k).f4
    else openTxt (rd_T35 l k).f2 (rd_T35 l k).f4 ++ (kidsOf l k).flatMap (fun j => nodeT l g j (inB rawL (rd_T35 l k).f2)) ++ ([60, 47] ++ (rd_T35 l k).f2.data.toList ++ [62])
def inT (l : List RowT) (g : Nat) (k : Int) (raw : Bool) : List UInt8 := (kidsOf l k).flatMap fun j => nodeT l g j raw
def RowSmall (x : RowT) : Prop := x.f2.size ≤ 1048576 ∧ x.f3.size ≤ 1048576 ∧ x.f4.length ≤ 256 ∧ ∀ a ∈ x.f4, AttrSmall a
theorem flat_length (l : List AttT) (h : ∀ a ∈ l, AttrSmall a) : (l.flatMap attrTxt).length ≤ 7340036 * l.length := by
  induction l with
  | nil => simp
  | cons a r ih =>
    have h1 := attrTxt_length a (h a (by simp))
    have h2 := ih (fun b hb => h b (by simp [hb]))
    rw [List.flatMap_cons, List.length_append, List.length_cons]
    omega
theorem openTxt_length {x : RowT} (h : RowSmall x) : (openTxt x.f2 x.f4).length ≤ 1880097794 := by
  have h1 := flat_length x.f4 h.2.2.2
  have h2 := h.1
  have h3 := h.2.2.1
  rw [size_eq] at h2
  simp only [openTxt, List.length_append, List.length_cons, List.length_nil]
  omega
theorem go_length {l : List RowT} {e : Nat} {T : Int → List UInt8} (hnest : ∀ j, j < e → endOf l j ≤ e) (hT : ∀ j : Nat, j < e → (T (j : Int)).length + 2000000000 * j ≤ 2000000000 * endOf l j) : ∀ (g k : Nat), k ≤ e →
    ((kidsGo l e g k).flatMap T).length + 2000000000 * k ≤ 2000000000 * e
  | 0, k, hk => by simp [kidsGo]; omega
  | g + 1, k, hk => by
    unfold kidsGo
    split
    · rename_i hlt
      have h1 := hT k hlt
      have h2 := go_length hnest hT g (endOf l k) (hnest k hlt)
      rw [List.flatMap_cons, List.length_append]
      omega
    · simp; omega
theorem go_length2 {l : List RowT} (g k : Nat) (hk : k < l.length) (raw : Bool) (hT : ∀ k2 : Nat, k2 < l.length → (nodeT l g (k2 : Int) raw).length + 2000000000 * k2 ≤ 2000000000 * endOf l k2) (he : k < endOf l k ∧ endOf l k ≤ l.length) : ∀ (g2 k2 : Nat), k < k2 → k2 ≤ endOf l k →
    ((kidsGo l (endOf l k) g2 k2).flatMap fun j => nodeT l g j raw).length + 2000000000 * k2 ≤ 2000000000 * endOf l k
  | 0, k2, h1, h2 => by simp [kidsGo]; omega
  | g2 + 1, k2, h1, h2 => by
    unfold kidsGo
    split
    · rename_i hlt
      have h3 := hT k2 (by omega)
      have h4 := end_nest hk h1 hlt
      have h5 := go_length2 g k hk raw hT he g2 (endOf l k2) (by unfold endOf; omega) h4
      rw [List.flatMap_cons, List.length_append]
      omega
    · simp; omega
theorem node_length {l : List RowT} (hs : ∀ x ∈ l, RowSmall x) : ∀ (g k : Nat) (raw : Bool), k < l.length → (nodeT l g (k : Int) raw).length + 2000000000 * k ≤ 2000000000 * endOf l k
  | 0, k, raw, hk => by
    have := endOf_le l k hk
    simp [nodeT]; omega
  | g + 1, k, raw, hk => by
    have he := endOf_le l k hk
    have hx : RowSmall (rd_T35 l (k : Int)) := by rw [rdR_at hk]; exact hs _ (List.getElem_mem hk)
    have ho := openTxt_length hx
    have hn := hx.1
    have hd := hx.2.1
    rw [size_eq] at hn hd
    have hes := escAll_length false _ (rd_T35 l (k : Int)).f3.data.toList (Nat.le_refl _)
    unfold nodeT
    split
    · split <;> omega
    · split
      · simp only [List.length_append, List.length_cons, List.length_nil]; omega
      · split
        · omega
        · have hk2 : ((kidsOf l (k : Int)).flatMap fun j => nodeT l g j (inB rawL (rd_T35 l (k : Int)).f2)).length + 2000000000 * (k + 1) ≤ 2000000000 * endOf l k := by
            have hre : rEnd l (k : Int) = (endOf l k : Int) := by unfold rEnd; rw [if_pos ⟨by omega, by omega⟩]; rfl
            unfold kidsOf
            rw [if_neg (by omega), hre, show ((endOf l k : Nat) : Int).toNat = endOf l k from rfl, show ((k : Nat) : Int).toNat = k from rfl]
            exact go_length2 g k hk _ (fun k2 h2 => node_length hs g k2 _ h2) he l.length (k + 1) (by omega) (by omega)
          simp only [List.length_append, List.length_cons, List.length_nil]; omega
theorem in_length {l : List RowT} (hs : ∀ x ∈ l, RowSmall x) (g : Nat) (i : Int) (hi : i = -1 ∨ (0 ≤ i ∧ i < (l.length : Int))) (raw : Bool) : (inT l g i raw).length ≤ 2000000000 * l.length := by
  unfold inT
  rcases hi with rfl | ⟨h0, h1⟩
  · unfold kidsOf
    rw [if_pos rfl]
    have := go_length (l := l) (e := l.length) (T := fun j => nodeT l g j raw) (fun j hj => (endOf_le l j hj).2) (fun j hj => node_length hs g j raw hj) l.length 0 (by omega)
    omega
  · obtain ⟨m, rfl⟩ := Int.eq_ofNat_of_zero_le h0
    have hm : m < l.length := by omega
    have he := endOf_le l m hm
    have hre : rEnd l (m : Int) = (endOf l m : Int) := by unfold rEnd; rw [if_pos ⟨by omega, by omega⟩]; rfl
    unfold kidsOf
    rw [if_neg (by omega), hre, show ((endOf l m : Nat) : Int).toNat = endOf l m from rfl, show ((m : Nat) : Int).toNat = m from rfl]
    have := go_length2 g m hm raw (fun k2 h2 => node_length hs g k2 _ h2) he l.length (m + 1) (by omega) (by omega)
    omega
theorem put_is {acc : List UInt8} {s : ByteArray} (h : acc.length + s.data.toList.length ≤ 140737488355328) : wPut acc s = some (acc ++ s.data.toList) := by
  unfold wPut
  rw [size_eq, if_pos h]
theorem fold_is (N : Int → List UInt8 → Option (List UInt8)) (T : Int → List UInt8) : ∀ (ks : List Int) (acc : List UInt8), (∀ j ∈ ks, ∀ a : List UInt8, a.length + (T j).length ≤ 140737488355328 → N j a = some (a ++ T j)) → acc.length + (ks.flatMap T).length ≤ 140737488355328 →
    ks.foldlM (fun a j => N j a) acc = some (acc ++ ks.flatMap T)
  | [], acc, _, _ => by simp
  | j :: r, acc, h, hl => by
    rw [List.flatMap_cons, List.length_append] at hl
    rw [List.foldlM_cons, h j (by simp) acc (by omega)]
    show r.foldlM (fun a j => N j a) (acc ++ T j) = _
    rw [fold_is N T r (acc ++ T j) (fun i hi => h i (by simp [hi])) (by rw [List.length_append]; omega), List.flatMap_cons, List.append_assoc]
theorem wNode_is {l : List RowT} (hr : rightB l = true) (hs : ∀ x ∈ l, RowSmall x) (hl : l.length ≤ 60000) : ∀ (g k : Nat) (raw : Bool) (acc : List UInt8), k < l.length → l.length - k ≤ g → acc.length + (nodeT l g (k : Int) raw).length ≤ 140737488355328 →
    wNode l g (k : Int) raw acc = some (acc ++ nodeT l g (k : Int) raw)
  | 0, k, raw, acc, hk, hg, ha => by omega
  | g + 1, k, raw, acc, hk, hg, ha => by
    have hx : RowSmall (rd_T35 l (k : Int)) := by rw [rdR_at hk]; exact hs _ (List.getElem_mem hk)
    have hkind : (rd_T35 l (k : Int)).f1 = 0 ∨ (rd_T35 l (k : Int)).f1 = 1 ∨ (rd_T35 l (k : Int)).f1 = 2 := right_kind hr hk
    unfold nodeT at ha ⊢
    unfold wNode
    rw [if_pos ⟨by omega, by omega⟩]
    obtain ⟨hx2, hx3, hx4, hxa⟩ := hx
    by_cases h1 : (rd_T35 l (k : Int)).f1 = 1
    · rw [if_pos h1] at ha ⊢
      rw [if_pos h1]
      cases raw with
      | true =>
        rw [if_pos rfl] at ha ⊢
        rw [if_pos rfl]
        exact put_is ha
      | false =>
        rw [if_neg (by decide)] at ha ⊢
        rw [if_neg (by decide), text_is _ (by omega), Option.bind_some]
        exact put_is ha
    · rw [if_neg h1] at ha ⊢
      rw [if_neg h1]
      by_cases h2 : (rd_T35 l (k : Int)).f1 = 2
      · rw [if_pos h2] at ha ⊢
        rw [if_pos h2, if_pos (by omega)]
        have e : ((⟨#[60, 33, 45, 45]⟩ : ByteArray) ++ (rd_T35 l (k : Int)).f3 ++ (⟨#[45, 45, 62]⟩ : ByteArray)).data.toList = [60, 33, 45, 45] ++ (rd_T35 l (k : Int)).f3.data.toList ++ [45, 45, 62] := by simp
        rw [put_is (by rw [e]; exact ha), e]
      · rw [if_neg h2] at ha ⊢
        rw [if_neg h2, if_pos (by omega), opened_is _ _ _ _ _ hx2 (by omega) hxa (by omega), Option.bind_some]
        by_cases hv : inB voidL (rd_T35 l (k : Int)).f2 = true
        · rw [if_pos hv] at ha ⊢
          have hp := put_is (acc := acc) (s := bs (openTxt (rd_T35 l (k : Int)).f2 (rd_T35 l (k : Int)).f4)) ha
          rw [hp, Option.bind_some, void_is _ (by omega), Option.bind_some, if_pos hv]; rfl
        · rw [if_neg hv] at ha ⊢
          simp only [List.length_append] at ha
          have hp := put_is (acc := acc) (s := bs (openTxt (rd_T35 l (k : Int)).f2 (rd_T35 l (k : Int)).f4)) (by rw [bs_data]; omega)
          rw [hp, Option.bind_some, void_is _ (by omega), Option.bind_some, if_neg hv, raw_is _ (by omega), Option.bind_some]
          have hki : rows_Kids.f l (k : Int) = some (kidsOf l (k : Int)) := by unfold rows_Kids.f; rw [if_pos (.inr ⟨by omega, by omega⟩), if_pos (by omega)]
          rw [hki, Option.bind_some, fold_is (fun j a => wNode l g j _ a) (fun j => nodeT l g j (inB rawL (rd_T35 l (k : Int)).f2)) _ _ (fun j hj a hal => by
            obtain ⟨m, rfl, h3, h4⟩ := kidsOf_mem (.inr ⟨by omega, by omega⟩) hj
            exact wNode_is hr hs hl g m _ a h4 (by omega) hal) (by rw [List.length_append, bs_data]; omega), Option.bind_some, if_pos (by omega)]
          have e : ((⟨#[60, 47]⟩ : ByteArray) ++ (rd_T35 l (k : Int)).f2 ++ (⟨#[62]⟩ : ByteArray)).data.toList = [60, 47] ++ (rd_T35 l (k : Int)).f2.data.toList ++ [62] := by simp
          rw [put_is (by rw [e]; simp only [List.length_append, bs_data]; omega), e, bs_data]
          simp only [List.append_assoc]
def rawOf (l : List RowT) (i : Int) : Bool := if 0 ≤ i then inB rawL (rd_T35 l i).f2 else false
theorem written_text {l : List RowT} (hr : rightB l = true) (hs : ∀ x ∈ l, RowSmall x) (hl : l.length ≤ 60000) (i : Int) (hi : i = -1 ∨ (0 ≤ i ∧ i < (l.length : Int))) : write_written.f l i = some (bs (inT l (l.length + 1) i (rawOf l i))) := by
  have hlen := in_length hs (l.length + 1) i hi (rawOf l i)
  have hwi : wIn l (l.length + 1) i (rawOf l i) [] = some (inT l (l.length + 1) i (rawOf l i)) := by
    unfold wIn
    have hki : rows_Kids.f l i = some (kidsOf l i) := by unfold rows_Kids.f; rw [if_pos hi, if_pos (by omega)]
    rw [hki, Option.bind_some, fold_is (fun j a => wNode l (l.length + 1) j (rawOf l i) a) (fun j => nodeT l (l.length + 1) j (rawOf l i)) _ _ (fun j hj a hal => by
      obtain ⟨m, rfl, h3, h4⟩ := kidsOf_mem hi hj
      exact wNode_is hr hs hl (l.length + 1) m _ a h4 (by omega) hal) (by unfold inT at hlen; rw [List.length_nil]; omega)]
    rfl
  unfold write_written.f
  rcases hi with rfl | ⟨h0, h1⟩
  · rw [if_neg (by omega), if_pos rfl, Option.bind_some, show (false : Bool) = rawOf l (-1) from rfl, hwi]; rfl
  · have e : rawOf l i = inB rawL (rd_T35 l i).f2 := by unfold rawOf; rw [if_pos h0]
    rw [if_pos h0, if_pos h1, raw_is _ (by omega), Option.bind_some, ← e, hwi]; rfl
theorem rd_ints {ks : List Int} {p : Nat} (h : p < ks.length) : rd ks (p : Int) = ks[p] := by simp [rd, h]
theorem within_loop {l : List RowT} (hr : rightB l = true) (hs : ∀ x ∈ l, RowSmall x) (hl : l.length ≤ 60000) (g : Nat) (i0 : Int) (ks : List Int) (raw : Bool) (hlk : ks.length ≤ 60000) (hks : ∀ j ∈ ks, ∃ m : Nat, j = (m : Int) ∧ m < l.length)
    (hW : ∀ j ∈ ks, Ev (fun k => boltingref08_Within.f k l j) (bs (inT l g j (rawOf l j)))) : ∀ (d p : Nat) (out : List UInt8), p + d = ks.length → out.length + ((ks.drop p).flatMap fun j => nodeT l (g + 1) j raw).length ≤ 140737488355328 →
    Ev (fun k => boltingref08_Within.l0 k l (bs out) ks raw (p : Int)) (bs (out ++ (ks.drop p).flatMap fun j => nodeT l (g + 1) j raw))
  | 0, p, out, hp, ho => by
    refine evK (fun k => ?_)
    rw [boltingref08_Within.l0, if_neg (by omega), List.drop_eq_nil_of_le (by omega)]
    simp
  | d + 1, p, out, hp, ho => by
    have hlt : p < ks.length := by omega
    obtain ⟨m, hj, hm⟩ := hks ks[p] (List.getElem_mem hlt)
    have hWj := hW ks[p] (List.getElem_mem hlt)
    rw [List.drop_eq_getElem_cons hlt, List.flatMap_cons, List.length_append] at ho
    rw [List.drop_eq_getElem_cons hlt, List.flatMap_cons]
    have ih := within_loop hr hs hl g i0 ks raw hlk hks hW d (p + 1) (out ++ nodeT l (g + 1) ks[p] raw) (by omega) (by rw [List.length_append]; omega)
    rw [List.append_assoc] at ih
    have hrd := rd_ints hlt
    rw [hj] at ih ho hrd hWj ⊢
    have hx : RowSmall (rd_T35 l (m : Int)) := by rw [rdR_at hm]; exact hs _ (List.getElem_mem hm)
    obtain ⟨hx2, hx3, hx4, hxa⟩ := hx
    have hkind : (rd_T35 l (m : Int)).f1 = 0 ∨ (rd_T35 l (m : Int)).f1 = 1 ∨ (rd_T35 l (m : Int)).f1 = 2 := right_kind hr hm
    have hput : ∀ (s : ByteArray), s.data.toList = nodeT l (g + 1) (m : Int) raw → bs out ++ s = bs (out ++ nodeT l (g + 1) (m : Int) raw) := fun s h => by rw [← h, ← bs_app]; rfl
    have hsz : ∀ (s : ByteArray), s.data.toList = nodeT l (g + 1) (m : Int) raw → (bs out).size + s.size ≤ 9223372036854775807 := fun s h => by rw [bs_size, size_eq, h]; omega
    refine evI (f := fun k => boltingref08_Within.j2 k l (bs out) ks raw (p : Int) (if (rd_T35 l (m : Int)).f1 = 1 then raw else false) (rd_T35 l (m : Int)).f0 (rd_T35 l (m : Int)).f1 (rd_T35 l (m : Int)).f2 (rd_T35 l (m : Int)).f3 (rd_T35 l (m : Int)).f4) (fun k => ?_) ?_
    · rw [boltingref08_Within.l0, if_pos (by omega), if_pos (by omega), hrd, if_pos (by omega), if_pos (by omega)]
      split <;> rfl
    by_cases h1 : (rd_T35 l (m : Int)).f1 = 1
    · rw [if_pos h1]
      cases raw with
      | true =>
        have e : (rd_T35 l (m : Int)).f3.data.toList = nodeT l (g + 1) (m : Int) true := by unfold nodeT; rw [if_pos h1, if_pos rfl]
        refine evI (fun k => ?_) ih
        rw [boltingref08_Within.j2, if_pos rfl, if_pos (hsz _ e), hput _ e, w64n (by omega)]
      | false =>
        have e : (bs (escAll false (rd_T35 l (m : Int)).f3.data.toList)).data.toList = nodeT l (g + 1) (m : Int) false := by unfold nodeT; rw [if_pos h1, if_neg (by decide), bs_data]
        refine evI (f := fun k => (boltingref03_Write.f k (rd_T35 l (m : Int)).f3 false).bind fun t => if (bs out).size + t.size ≤ 9223372036854775807 then boltingref08_Within.l0 k l (bs out ++ t) ks false (wrap64 ((p : Int) + 1)) else none) (fun k => ?_) (Ev.bind (evAt _ (fun k hk => write_is _ false (by omega) hk)) ?_)
        · rw [boltingref08_Within.j2, if_neg (by decide), if_pos h1]
        · exact Ev.congr (fun k => by rw [if_pos (hsz _ e), hput _ e, w64n (by omega)]) ih
    · rw [if_neg h1]
      by_cases h2 : (rd_T35 l (m : Int)).f1 = 2
      · have e : (((⟨#[60, 33, 45, 45]⟩ : ByteArray) ++ (rd_T35 l (m : Int)).f3) ++ (⟨#[45, 45, 62]⟩ : ByteArray)).data.toList = nodeT l (g + 1) (m : Int) raw := by unfold nodeT; rw [if_neg h1, if_pos h2]; simp
        refine evI (fun k => ?_) ih
        rw [boltingref08_Within.j2, if_neg (by decide), if_neg h1, if_pos h2, if_pos (by omega), if_pos (by rw [ByteArray.size_append, lit_size]; simp only [List.length_cons, List.length_nil]; omega), if_pos (hsz _ e), hput _ e, w64n (by omega)]
      · have htag := evAt (g := fun k => boltingref08_tag.f k (rd_T35 l (m : Int)).f0 (rd_T35 l (m : Int)).f1 (rd_T35 l (m : Int)).f2 (rd_T35 l (m : Int)).f3 (rd_T35 l (m : Int)).f4) _ (fun k hk => tag_is _ _ _ _ _ hx2 (by omega) hxa hk)
        have hhas := evAt (g := fun k => boltingref02_Has.f k voidL (rd_T35 l (m : Int)).f2) _ (fun k hk => has_is voidL _ (by decide) hk)
        have hp0 : (0 : Int) ≤ (p : Int) := by omega
        have hp1 : (p : Int) < (ks.length : Int) := by omega
        have hj2 : ∀ k, boltingref08_Within.j2 (k + 1) l (bs out) ks raw (p : Int) false (rd_T35 l (m : Int)).f0 (rd_T35 l (m : Int)).f1 (rd_T35 l (m : Int)).f2 (rd_T35 l (m : Int)).f3 (rd_T35 l (m : Int)).f4 = (boltingref02_Has.f k voidL (rd_T35 l (m : Int)).f2).bind fun t => if t = true then ((boltingref08_tag.f k (rd_T35 l (m : Int)).f0 (rd_T35 l (m : Int)).f1 (rd_T35 l (m : Int)).f2 (rd_T35 l (m : Int)).f3 (rd_T35 l (m : Int)).f4).bind fun t398 => if (bs out).size + t398.size ≤ 9223372036854775807 then boltingref08_Within.l0 k l (bs out ++ t398) ks raw (wrap64 ((p : Int) + 1)) else none)
          else (boltingref08_tag.f k (rd_T35 l (m : Int)).f0 (rd_T35 l (m : Int)).f1 (rd_T35 l (m : Int)).f2 (rd_T35 l (m : Int)).f3 (rd_T35 l (m : Int)).f4).bind fun t399 => (boltingref08_Within.f k l (m : Int)).bind fun t401 => if t399.size + t401.size ≤ 9223372036854775807 then (if (t399 ++ t401).size + 2 ≤ 9223372036854775807 then (if ((t399 ++ t401) ++ (⟨#[60, 47]⟩ : ByteArray)).size + (rd_T35 l (m : Int)).f2.size ≤ 9223372036854775807 then (if (((t399 ++ t401) ++ (⟨#[60, 47]⟩ : ByteArray)) ++ (rd_T35 l (m : Int)).f2).size + 1 ≤ 9223372036854775807 then (if (bs out).size + ((((t399 ++ t401) ++ (⟨#[60, 47]⟩ : ByteArray)) ++ (rd_T35 l (m : Int)).f2) ++ (⟨#[62]⟩ : ByteArray)).size ≤ 9223372036854775807 then boltingref08_Within.l0 k l (bs out ++ ((((t399 ++ t401) ++ (⟨#[60, 47]⟩ : ByteArray)) ++ (rd_T35 l (m : Int)).f2) ++ (⟨#[62]⟩ : ByteArray))) ks raw (wrap64 ((p : Int) + 1)) else none) else none) else none) else none) else none := fun k => by
          rw [boltingref08_Within.j2, if_neg (by decide), if_neg h1, if_neg h2, show boltingref05_Void.f = some voidL from rfl, Option.bind_some, hrd]
          simp only [if_pos hp0, if_pos hp1]
        refine evI hj2 (Ev.bind hhas ?_)
        by_cases hv : inB voidL (rd_T35 l (m : Int)).f2 = true
        · have e : (bs (openTxt (rd_T35 l (m : Int)).f2 (rd_T35 l (m : Int)).f4)).data.toList = nodeT l (g + 1) (m : Int) raw := by unfold nodeT; rw [if_neg h1, if_neg h2, if_pos hv, bs_data]
          refine Ev.congr (fun k => by rw [if_pos hv]) (Ev.bind htag ?_)
          exact Ev.congr (fun k => by rw [if_pos (hsz _ e), hput _ e, w64n (by omega)]) ih
        · have e0 : nodeT l (g + 1) (m : Int) raw = openTxt (rd_T35 l (m : Int)).f2 (rd_T35 l (m : Int)).f4 ++ inT l g (m : Int) (rawOf l (m : Int)) ++ ([60, 47] ++ (rd_T35 l (m : Int)).f2.data.toList ++ [62]) := by
            rw [nodeT, if_neg h1, if_neg h2, if_neg hv]
            unfold inT rawOf
            rw [if_pos (by omega)]
          have e : ((((bs (openTxt (rd_T35 l (m : Int)).f2 (rd_T35 l (m : Int)).f4) ++ bs (inT l g (m : Int) (rawOf l (m : Int)))) ++ (⟨#[60, 47]⟩ : ByteArray)) ++ (rd_T35 l (m : Int)).f2) ++ (⟨#[62]⟩ : ByteArray)).data.toList = nodeT l (g + 1) (m : Int) raw := by
            rw [e0]; simp [bs]
          have hlen : (openTxt (rd_T35 l (m : Int)).f2 (rd_T35 l (m : Int)).f4).length + (inT l g (m : Int) (rawOf l (m : Int))).length ≤ 140737488355328 := by
            rw [e0] at ho
            simp only [List.length_append] at ho
            omega
          refine Ev.congr (fun k => by rw [if_neg hv]) (Ev.bind htag (Ev.bind hWj ?_))
          refine Ev.congr (fun k => ?_) ih
          rw [if_pos (by simp only [bs_size]; omega), if_pos (by simp only [ByteArray.size_append, bs_size]; omega), if_pos (by simp only [ByteArray.size_append, bs_size, lit_size, List.length_cons, List.length_nil]; omega), if_pos (by simp only [ByteArray.size_append, bs_size, lit_size, List.length_cons, List.length_nil]; omega), if_pos (hsz _ e), hput _ e, w64n (by omega)]
theorem rKids_is {l : List RowT} (hr : rightB l = true) (hl : l.length ≤ 60000) {i : Int} (hi : i = -1 ∨ (0 ≤ i ∧ i < (l.length : Int))) : boltingref04_Kids.f l i = some (kidsOf l i) := by
  unfold boltingref04_Kids.f
  rw [if_neg (by omega), if_pos (by omega), kids_same hr (by omega) hi]
theorem kidsOf_len {l : List RowT} {i : Int} (hi : i = -1 ∨ (0 ≤ i ∧ i < (l.length : Int))) : (kidsOf l i).length ≤ l.length := kidsOf_length l i hi
theorem within_is {l : List RowT} (hr : rightB l = true) (hs : ∀ x ∈ l, RowSmall x) (hl : l.length ≤ 60000) : ∀ (g : Nat) (i : Int), (i = -1 ∨ (0 ≤ i ∧ i < (l.length : Int))) → (l.length : Int) - i ≤ g → Ev (fun k => boltingref08_Within.f k l i) (bs (inT l g i (rawOf l i)))
  | 0, i, hi, hg => by omega
  | g + 1, i, hi, hg => by
    have hW : ∀ j ∈ kidsOf l i, Ev (fun k => boltingref08_Within.f k l j) (bs (inT l g j (rawOf l j))) := fun j hj => by
      obtain ⟨m, rfl, h3, h4⟩ := kidsOf_mem hi hj
      exact within_is hr hs hl g m (.inr ⟨by omega, by omega⟩) (by omega)
    have hlen := in_length hs (g + 1) i hi (rawOf l i)
    have hk := kidsOf_len hi
    have hlp := within_loop hr hs hl g i (kidsOf l i) (rawOf l i) (by omega) (fun j hj => by
      obtain ⟨m, h1, h3, h4⟩ := kidsOf_mem hi hj
      exact ⟨m, h1, h4⟩) hW (kidsOf l i).length 0 [] (by omega) (by unfold inT at hlen; rw [List.length_nil, List.drop_zero]; omega)
    have hj0 : Ev (fun k => boltingref08_Within.j0 k l ⟨#[]⟩ (kidsOf l i) (rawOf l i)) (bs (inT l (g + 1) i (rawOf l i))) := evI (fun k => by rw [boltingref08_Within.j0]; rfl) hlp
    by_cases h0 : i ≥ 0
    · have e : rawOf l i = inB rawL (rd_T35 l i).f2 := by unfold rawOf; rw [if_pos h0]
      refine evI (f := fun k => (boltingref02_Has.f k rawL (rd_T35 l i).f2).bind fun t => boltingref08_Within.j0 k l ⟨#[]⟩ (kidsOf l i) t) (fun k => ?_) (Ev.bind (evAt _ (fun k hk => has_is rawL _ (by decide) hk)) (by rw [← e]; exact hj0))
      rw [boltingref08_Within.f, rKids_is hr hl hi, Option.bind_some, if_pos h0, show boltingref05_Raw.f = some rawL from rfl, Option.bind_some, if_pos h0, if_pos (by omega)]
    · have e : rawOf l i = false := by unfold rawOf; rw [if_neg h0]
      refine evI (fun k => ?_) hj0
      rw [boltingref08_Within.f, rKids_is hr hl hi, Option.bind_some, if_neg h0, e]
theorem rows_same {l : List RowT} (hr : rightB l = true) (hs : ∀ x ∈ l, RowSmall x) (hl : l.length ≤ 60000) : ∃ r, write_Rows.f l = some r ∧ Ev (fun k => boltingref08_Within.f k l (-1)) r :=
  ⟨_, by unfold write_Rows.f; rw [written_text hr hs hl (-1) (.inl rfl)]; rfl, within_is hr hs hl (l.length + 1) (-1) (.inl rfl) (by omega)⟩
theorem inside_same {l : List RowT} (hr : rightB l = true) (hs : ∀ x ∈ l, RowSmall x) (hl : l.length ≤ 60000) (i : Int) : ∃ r, Ev (fun k => write_Inside.f k l i) r ∧ Ev (fun k => boltingref08_Inside.f k l i) r := by
  by_cases h1 : i = -1
  · refine ⟨_, Ev.congr (f := fun _ => some (bs (inT l (l.length + 1) i (rawOf l i)))) (fun k => ?_) (Ev.now _), Ev.congr (fun k => ?_) (within_is hr hs hl (l.length + 1) i (.inl h1) (by omega))⟩
    · unfold write_Inside.f
      rw [if_pos h1, written_text hr hs hl i (.inl h1)]; rfl
    · unfold boltingref08_Inside.f
      rw [if_neg (by omega), if_neg (by omega), if_neg (by omega)]
      cases boltingref08_Within.f k l i <;> rfl
  · by_cases h2 : i < 0
    · refine ⟨⟨#[]⟩, Ev.congr (fun k => ?_) (Ev.now _), Ev.congr (fun k => ?_) (Ev.now _)⟩
      · unfold write_Inside.f; rw [if_neg h1, if_pos h2]
      · unfold boltingref08_Inside.f; rw [if_pos (by omega)]
    · by_cases h3 : i ≥ (l.length : Int)
      · refine ⟨⟨#[]⟩, Ev.congr (fun k => ?_) (Ev.now _), Ev.congr (fun k => ?_) (Ev.now _)⟩
        · unfold write_Inside.f; rw [if_neg h1, if_neg h2, if_pos h3]
        · unfold boltingref08_Inside.f; rw [if_neg (by omega), if_pos h3]
      · by_cases h4 : (rd_T35 l i).f1 = 0
        · by_cases hv : inB voidL (rd_T35 l i).f2 = true
          · refine ⟨⟨#[]⟩, evAt 14 (fun k hk => ?_), evAt 14 (fun k hk => ?_)⟩
            · unfold write_Inside.f; rw [if_neg h1, if_neg h2, if_neg h3, if_pos (by omega), if_pos (by omega), if_pos h4, void_is _ hk, Option.bind_some, if_pos hv]
            · unfold boltingref08_Inside.f; rw [if_neg (by omega), if_neg h3, if_pos (by omega), if_pos (by omega), if_pos (by omega), if_pos h4, show boltingref05_Void.f = some voidL from rfl, Option.bind_some, has_is voidL _ (by decide) hk, Option.bind_some, if_pos hv]
          · refine ⟨_, evAt 14 (fun k hk => ?_), Ev.congr (f := fun k => (boltingref02_Has.f k voidL (rd_T35 l i).f2).bind fun t => if t = true then some ⟨#[]⟩ else boltingref08_Within.f k l i) (fun k => ?_) (Ev.bind (evAt _ (fun k hk => has_is voidL _ (by decide) hk)) (Ev.congr (fun k => by rw [if_neg hv]) (within_is hr hs hl (l.length + 1) i (.inr ⟨by omega, by omega⟩) (by omega))))⟩
            · unfold write_Inside.f; rw [if_neg h1, if_neg h2, if_neg h3, if_pos (by omega), if_pos (by omega), if_pos h4, void_is _ hk, Option.bind_some, if_neg hv, written_text hr hs hl i (.inr ⟨by omega, by omega⟩)]; rfl
            · unfold boltingref08_Inside.f; rw [if_neg (by omega), if_neg h3, if_pos (by omega), if_pos (by omega), if_pos (by omega), if_pos h4, show boltingref05_Void.f = some voidL from rfl, Option.bind_some]
              cases boltingref08_Within.f k l i <;> rfl
        · refine ⟨⟨#[]⟩, Ev.congr (fun k => ?_) (Ev.now _), Ev.congr (fun k => ?_) (Ev.now _)⟩
          · unfold write_Inside.f; rw [if_neg h1, if_neg h2, if_neg h3, if_pos (by omega), if_pos (by omega), if_neg h4]
          · unfold boltingref08_Inside.f; rw [if_neg (by omega), if_neg h3, if_pos (by omega), if_pos (by omega), if_pos (by omega), if_neg h4]
end Go.Proofs.YtpnhjipaeggcpaaDoor.X
end
section
namespace Go.Proofs.YtpnhjipaeggcpaaDoor.X
open Go.RowKit Go.Proofs.YtpnhjipaeggcpaaDoorW.PrintWords Go.Proofs.YtpnhjipaeggcpaaDoorW.PrintLast Go.Proofs.YtpnhjipaeggcpaaDoorW.PrintMore
def cutRow (x : RowT) : RowT := ⟨x.f0, x.f1, x.f2, x.f3, x.f4.take 6⟩
def bnd (l : List RowT) : List RowT := (l.take 40).map cutRow
theorem cut_mn (x : RowT) : x.f4.take ((mn (x.f4.length : Int) 6 : Int).toNat) = x.f4.take 6 := by
  unfold mn
  split
  · rfl
  · rw [List.take_of_length_le (i := 6) (by omega), List.take_of_length_le (by omega)]
theorem bound_loop (l : List RowT) : ∀ (d j : Nat) (acc : List RowT), j + d = 40 → acc.length ≤ j → Ev (fun k => boltinglaw08_bound.l0 k l acc (j : Int)) (acc ++ ((l.drop j).take d).map cutRow)
  | 0, j, acc, hj, ha => by
    refine evK (fun k => ?_)
    rw [boltinglaw08_bound.l0]
    split
    · rw [if_neg (by omega)]; simp
    · simp
  | d + 1, j, acc, hj, ha => by
    by_cases hlt : j < l.length
    · have ih := bound_loop l d (j + 1) (acc ++ [cutRow l[j]]) (by omega) (by simp; omega)
      rw [List.drop_eq_getElem_cons hlt, List.take_succ_cons, List.map_cons]
      rw [List.append_assoc] at ih
      refine evI (fun k => ?_) ih
      have hm : 0 ≤ mn ((rd_T35 l (j : Int)).f4.length : Int) 6 ∧ mn ((rd_T35 l (j : Int)).f4.length : Int) 6 ≤ ((rd_T35 l (j : Int)).f4.length : Int) := by unfold mn; split <;> omega
      rw [boltinglaw08_bound.l0, if_pos (by omega), if_pos (by omega), if_pos (by omega), if_pos hm.1, if_pos hm.2, if_pos (by omega), cut_mn, rdR_at hlt, w64n (by omega)]
      rfl
    · rw [List.drop_eq_nil_of_le (by omega)]
      refine evK (fun k => ?_)
      rw [boltinglaw08_bound.l0, if_neg (by omega)]
      simp
theorem bound_is (l : List RowT) : Ev (fun k => boltinglaw08_bound.f k l) (bnd l) := by
  have := bound_loop l 40 0 [] rfl (Nat.le_refl _)
  exact this
theorem bnd_length (l : List RowT) : (bnd l).length ≤ 40 := by simp [bnd]; omega
theorem bnd_attrs {l : List RowT} {x : RowT} (h : x ∈ bnd l) : x.f4.length ≤ 6 := by
  unfold bnd at h
  obtain ⟨y, hy, rfl⟩ := List.mem_map.1 h
  simp [cutRow]; omega
theorem bnd_mem {l : List RowT} {x : RowT} (h : x ∈ bnd l) : ∃ y ∈ l, x = cutRow y := by
  unfold bnd at h
  obtain ⟨y, hy, rfl⟩ := List.mem_map.1 h
  exact ⟨y, List.mem_of_mem_take hy, rfl⟩
def StrSmall (x : RowT) : Prop := x.f2.size ≤ 1048576 ∧ x.f3.size ≤ 1048576 ∧ ∀ a ∈ x.f4, a.f0.size ≤ 1048576 ∧ a.f1.size ≤ 1048576
end Go.Proofs.YtpnhjipaeggcpaaDoor.X
end
section
namespace Go.Proofs.YtpnhjipaeggcpaaDoor.X
open Go.RowKit Go.Proofs.YtpnhjipaeggcpaaDoorW.PrintWords
def utf8_ValidString.f (a0 : ByteArray) : Option Bool := if a0.size ≤ 9223372036854775807 then some (Lib.validD a0.data.toList) else none
theorem utf8_ValidString.calls (a0 : ByteArray) (r : Bool) (w : World) (h : utf8_ValidString.f a0 = some r) (hT : WF w := by exact WF.below hT (by repeat (first | (with_reducible first | exact HB.out | apply below_alloc | apply pw_below_drewN | apply below_drew1) | exact HB.out | (refine below_set ?_ (Aside0.out (by assumption)))))) :
    Calls Tryd.prog 68 #[.string a0] w fun e w' => e = .returned (.bool r) ∧ Below w.heap.size w w' := by
  unfold utf8_ValidString.f at h
  split at h
  case isFalse => cases h
  rename_i hs
  cases h
  exact Any.utf8_ValidString Tryd.lays196 a0 w hs hT.1
def strings_Contains.f (a0 a1 : ByteArray) : Option Bool := if a0.size < 4294967281 then some (Lib.contains a0.data.toList a1.data.toList) else none
theorem strings_Contains.calls (a0 a1 : ByteArray) (r : Bool) (w : World) (h : strings_Contains.f a0 a1 = some r) (hT : WF w := by exact WF.below hT (by repeat (first | (with_reducible first | exact HB.out | apply below_alloc | apply pw_below_drewN | apply below_drew1) | exact HB.out | (refine below_set ?_ (Aside0.out (by assumption)))))) :
    Calls Tryd.prog 51 #[.string a0, .string a1] w fun e w' => e = .returned (.bool r) ∧ Below w.heap.size w w' := by
  unfold strings_Contains.f at h
  split at h
  case isFalse => cases h
  rename_i hs
  cases h
  obtain ⟨m, hm⟩ := hT.2
  refine (Tryd.strings_Contains a0 a1 m w hs hm).mono ?_
  rintro e w' ⟨rfl, rfl⟩
  exact ⟨rfl, Below.refl _ _⟩
def nulCr : ByteArray := ⟨#[0, 13]⟩
def isNulCr (b : UInt8) : Bool := b == 0 || b == 13
def strings_ContainsAny.f (a0 a1 : ByteArray) : Option Bool := if a0.size < 4294967281 ∧ a1 = nulCr then some (a0.data.toList.any isNulCr) else none
theorem nulCr_has (x : UInt8) : nulCr.data.toList.contains x = isNulCr x := by simp [nulCr, isNulCr, List.contains, List.elem]; cases x == 0 <;> cases x == 13 <;> rfl
theorem nulCr_any : ∀ l : List UInt8, decide (0 ≤ Lib.indexAny l nulCr.data.toList) = l.any isNulCr
  | [] => rfl
  | b :: l => by
    have ih := nulCr_any l
    have hge := Lib.indexAny_ge nulCr.data.toList l
    rw [Lib.indexAny, nulCr_has, List.any_cons]
    cases hb : isNulCr b with
    | true => rfl
    | false =>
      rw [Bool.false_or, ← ih]
      by_cases h1 : Lib.indexAny l nulCr.data.toList = -1
      · rw [h1]; rfl
      · rw [if_neg (by simp), if_neg (by simpa using h1)]
        rw [decide_eq_true (by omega : 0 ≤ Lib.indexAny l nulCr.data.toList + 1), decide_eq_true (by omega : 0 ≤ Lib.indexAny l nulCr.data.toList)]
theorem nulCr_small : ∀ (j : Nat) b, nulCr.data.toList[j]? = some b → b.toNat < 128 := by
  intro j b h
  match j, h with
  | 0, h => simp [nulCr] at h; subst h; decide
  | 1, h => simp [nulCr] at h; subst h; decide
theorem decode_step (s : ByteArray) (i : Nat) (h : i < s.size) (hx : 128 ≤ (s[i]'h).toNat) : i + (Utf8.decode s i).2 ≤ s.size ∧ 1 ≤ (Utf8.decode s i).2 ∧ ∀ (j : Nat) b, i ≤ j → j < i + (Utf8.decode s i).2 → s.data.toList[j]? = some b → 128 ≤ b.toNat := by
  have g0 : s.get! i = s[i]'h := by simpa using get_at s i h
  have key : ∀ (k : Nat) b, s.data.toList[i + k]? = some b → s.get! (i + k) = b := by
    intro k b hb
    have hlt : i + k < s.data.toList.length := (List.getElem?_eq_some_iff.1 hb).1
    have hlt' : i + k < s.size := hlt
    have h1 := Lib.data_getElem? s (i + k) hlt'
    rw [h1] at hb
    cases hb
    simpa using get_at s (i + k) hlt'
  rw [Lib.decode_at]
  rcases Lib.decodeN_shape (s.size - i) (s.get! i).toNat (s.get! (i + 1)).toNat (s.get! (i + 2)).toNat (s.get! (i + 3)).toNat with h1 | h1 | h1 | h1 | h1
  · rw [g0] at h1; omega
  · obtain ⟨a1, a2, a3, a4, e⟩ := h1
    rw [e]
    refine ⟨by simp only; omega, by simp, fun j b h1 h2 h3 => ?_⟩
    obtain ⟨k, rfl⟩ := Nat.exists_eq_add_of_le h1
    have := key k b h3
    match k, (show k < 2 by simp only at h2; omega) with
    | 0, _ => rw [Nat.add_zero] at this; rw [← this, g0]; exact hx
    | 1, _ => rw [← this]; omega
  · obtain ⟨a1, a2, a3, a4, a5, a6, e⟩ := h1
    rw [e]
    refine ⟨by simp only; omega, by simp, fun j b h1 h2 h3 => ?_⟩
    obtain ⟨k, rfl⟩ := Nat.exists_eq_add_of_le h1
    have := key k b h3
    match k, (show k < 3 by simp only at h2; omega) with
    | 0, _ => rw [Nat.add_zero] at this; rw [← this, g0]; exact hx
    | 1, _ => rw [← this]; omega
    | 2, _ => rw [← this]; omega
  · obtain ⟨a1, a2, a3, a4, a5, a6, a7, e⟩ := h1
    rw [e]
    refine ⟨by simp only; omega, by simp, fun j b h1 h2 h3 => ?_⟩
    obtain ⟨k, rfl⟩ := Nat.exists_eq_add_of_le h1
    have := key k b h3
    match k, (show k < 4 by simp only at h2; omega) with
    | 0, _ => rw [Nat.add_zero] at this; rw [← this, g0]; exact hx
    | 1, _ => rw [← this]; omega
    | 2, _ => rw [← this]; omega
    | 3, _ => rw [← this]; omega
  · rw [h1]
    refine ⟨by simp only; omega, by simp, fun j b h1 h2 h3 => ?_⟩
    obtain rfl : j = i := by simp only at h2; omega
    have h4 : b = s[j] := by
      have := Lib.data_getElem? s j h
      rw [this] at h3; cases h3; rfl
    rw [h4]; exact hx
theorem lib_drewN (B : Nat) (w : World) (n : Nat) : Below B w (w.drewN n) := ⟨rfl, rfl, rfl, Nat.le_refl _, fun _ _ => rfl⟩
theorem next_gen {P : Program} (w : World) (s : ByteArray) (b pos : Nat) (ty : TypeId) (hb : w.heap[b]? = some (.stringIter s pos)) (h : pos < s.size) :
    (Instr.next (.pointer (some ⟨b, 0, none⟩)) true ty).run P w =
      .ok (.tuple #[.bool true, .int .i64 pos, .int .i32 (Utf8.decode s pos).1]) { w with heap := w.heap.setIfInBounds b (.stringIter s (pos + (Utf8.decode s pos).2)) } := by
  simp only [Instr.next, getObj, setObj, Sem.run_bind, Sem.run, hb, Result.andThen, h, if_true]
  simp [goInt]
theorem next_gen_end {P : Program} (w : World) (s : ByteArray) (b pos : Nat) (ty : TypeId) (hb : w.heap[b]? = some (.stringIter s pos)) (h : ¬ pos < s.size) :
    (Instr.next (.pointer (some ⟨b, 0, none⟩)) true ty).run P w = .ok (.tuple #[.bool false]) w := by
  simp [Instr.next, getObj, Sem.run, hb, h]
theorem set_below {B b : Nat} {w : World} {o : Obj} (h : B ≤ b) : Below B w { w with heap := w.heap.setIfInBounds b o } :=
  ⟨rfl, rfl, rfl, by simp, fun k hk => by simp [show b ≠ k by omega]⟩
set_option maxHeartbeats 8000000 in
set_option maxRecDepth 1000000 in
theorem runeNot (r : Int) (w : World) (h0 : 128 ≤ r) (h1 : r ≤ 2147483647) :
    Calls Tryd.prog 85 #[.string nulCr, .int .i32 r] w fun e w' => e = .returned (.int .i64 (-1)) ∧ Below w.heap.size w w' := by
  have hz1 : ¬ r < 128 := by omega
  have hz2 : (0 : Int) ≤ r := by omega
  by_cases h2 : r = 65533
  · subst h2
    have hsz : nulCr.size = 2 := rfl
    go_enter Tryd.func85, Tryd.ntmps85
    go_wp2
    go_loopg [5, 6] 2 (fun g _ _ wx => ∃ i : Nat, i + g = 2 ∧ wx = w.iter nulCr i)
    case atStart => exact ⟨0, rfl, rfl⟩
    case round =>
      obtain ⟨i, hig, rfl⟩ := hrel
      cases gk with
      | zero =>
        obtain rfl : i = 2 := by omega
        have hnx := run_next_end (P := Tryd.prog) w nulCr 2
        have hlt : ¬ 2 < nulCr.size := by decide
        go_wp2
        go_ret
        exact ⟨rfl, (Below.refl _ w).alloc (Nat.le_refl _) _⟩
      | succ g =>
        have hi : i < nulCr.size := by omega
        obtain ⟨x, hx⟩ : ∃ x : UInt8, nulCr[i]'hi = x := ⟨_, rfl⟩
        have hx128 : x.toNat < 128 := by rw [← hx]; exact nulCr_small i _ (Lib.data_getElem? nulCr i hi)
        have hnx := fun ty => run_next_ascii (P := Tryd.prog) w nulCr i ty hi (by rw [hx]; exact hx128)
        rw [hx] at hnx
        clear hx
        have hne : ((x.toNat : Int) == 65533) = false := beq_eq_false_iff_ne.mpr (by omega)
        go_wp2
        go_roundg g
        case measure => omega
        case rel => exact ⟨i + 1, by omega, rfl⟩
  · have h2b : (r == 65533) = false := beq_eq_false_iff_ne.mpr h2
    have hv := Tryd.utf8_ValidRune r w
    have u21 := Tryd.underlying21
    have u9 := Tryd.underlying9
    cases hb : Lib.validRune r with
    | false =>
      rw [hb] at hv
      clear hb
      go_enter Tryd.func85, Tryd.ntmps85
      go_wp2_with (go_at_call 96; refine hv.mono ?_; rintro e w1 ⟨rfl, rfl⟩)
      go_ret
      exact ⟨rfl, Below.refl _ _⟩
    | true =>
      rw [hb] at hv
      have hval : Utf8.valid r = true := by rw [validRune_eq]; simpa [Lib.validRune, validRune] using hb
      obtain ⟨e1, e2, e3⟩ := encode_facts r hval h0
      clear hb hval
      have hnul : nulCr.size = 2 := rfl
      obtain ⟨rs, hrs⟩ : ∃ rs, Utf8.encode r = rs := ⟨_, rfl⟩
      rw [hrs] at e1 e2 e3
      have hcv : ∀ w, (convert 21 9 (.int .i32 r)).run Tryd.prog w = .ok (.string rs) w := fun w => by
        rw [run_convert_int_string w 21 9 .i32 r (by rw [u21]; rfl) u9, hrs]
      clear hrs
      obtain ⟨n, hn⟩ : ∃ n, rs.size = n + 1 := ⟨rs.size - 1, by omega⟩
      have hlast : ∀ h : n < rs.size, 128 ≤ (rs[n]'h).toNat := fun h => by
        have := e3 (by omega)
        simpa [hn] using this
      clear e3
      have hw64 : wrap64 ((rs.size : Int) - 1) = n := by rw [hn]; unfold wrap64; omega
      go_enter Tryd.func85, Tryd.ntmps85
      go_wp2_with (first | (go_at_call 96; refine hv.mono ?_; rintro e w1 ⟨rfl, rfl⟩))
      go_step3
      go_wp2
      go_loopg [9, 10, 11, 12] 0 (fun g x9 x10 _ _ wx => x9 = .int .i64 (n : Int) ∧ x10 = .int .i64 0 ∧ wx = w1)
      case atStart => exact ⟨rfl, rfl, rfl⟩
      case round =>
        obtain ⟨rfl, rfl, rfl⟩ := hrel
        by_cases hn1 : n = 1
        · subst hn1
          have hlt : (1 : Int) < (nulCr.size : Int) := by decide
          have h13 : ∀ h : 1 < nulCr.size, ((nulCr[1]'h).toNat : Int) = 13 := fun _ => rfl
          obtain ⟨m, hm⟩ : ∃ m : Int, ∀ h : 1 < rs.size, ((rs[1]'h).toNat : Int) = m := ⟨(rs[1].toNat : Int), fun _ => rfl⟩
          have hm1 : 128 ≤ m := by have := hlast (by omega); rw [← hm (by omega)]; omega
          have hne : ((13 : Int) == m) = false := beq_eq_false_iff_ne.mpr (by omega)
          have hne' : ((13 : Int) != m) = true := by simp only [bne, hne]; rfl
          clear hlast hcv hv
          have hib := fun w => Tryd.strings_IndexByte (ByteArray.empty) m w
          have hib0 : Lib.indexByte (ByteArray.empty).data.toList m.toNat.toUInt8 = -1 := rfl
          rw [hib0] at hib
          clear hib0
          go_wp2_with fail
          go_step3
          go_wp2_with fail
          go_quiet (fail)
          go_wp2_with fail
          go_quiet (first | (go_at_call 95; exact (hib _).mono fun _ _ h => ⟨h.1, _, h.2⟩))
          go_wp2
          simp only [Exit.noGoto_ret, Exit.inBlock, Exit.then]
          go_ret
          exact ⟨rfl, lib_drewN _ _ _⟩
        · have hlt : ¬ (n : Int) < (nulCr.size : Int) := by rw [hnul]; omega
          go_wp2
          go_ret
          exact ⟨rfl, Below.refl _ _⟩
theorem rune_any (r : Int) (w : World) (h0 : 0 ≤ r) (h1 : r ≤ 2147483647) :
    Calls Tryd.prog 85 #[.string nulCr, .int .i32 r] w fun e w' => e = .returned (.int .i64 (if r < 128 then Lib.indexByte nulCr.data.toList r.toNat.toUInt8 else -1)) ∧ Below w.heap.size w w' := by
  by_cases h : r < 128
  · rw [if_pos h]
    refine (Tryd.strings_IndexRune_ascii nulCr r w h0 h).mono ?_
    rintro e w' ⟨rfl, rfl⟩
    exact ⟨rfl, Below.refl _ _⟩
  · rw [if_neg h]
    exact runeNot r w (by omega) h1
theorem NoAny_skip {s : List UInt8} {i j : Nat} (h : Lib.NoAny s nulCr.data.toList i) (hd : ∀ (k : Nat) b, i ≤ k → k < j → s[k]? = some b → 128 ≤ b.toNat) : Lib.NoAny s nulCr.data.toList j := fun k b hk hb => by
  by_cases e : k < i
  · exact h k b e hb
  · have := hd k b (by omega) hk hb
    rw [nulCr_has]
    unfold isNulCr
    rw [Bool.or_eq_false_iff]
    constructor
    · exact beq_eq_false_iff_ne.mpr (by rintro rfl; simp at this)
    · exact beq_eq_false_iff_ne.mpr (by rintro rfl; simp at this)
theorem zero256 : (Tryd.prog.info? 90).map (fun i => (i.zero, i.size)) = some (some (.agg (Array.replicate 256 (.bool false))), 256) := by kernel_rfl
set_option maxHeartbeats 8000000 in
set_option maxRecDepth 1000000 in
theorem indexAny_short (s : ByteArray) (w : World) (h8 : s.size ≤ 8) :
    Calls Tryd.prog 69 #[.string s, .string nulCr] w fun e w' => e = .returned (.int .i64 (Lib.indexAny s.data.toList nulCr.data.toList)) ∧ Below w.heap.size w w' := by
  have hnul : nulCr.size = 2 := rfl
  have hemp : nulCr.toList.isEmpty = false := by rw [Lib.toList_data]; rfl
  have h8z : decide ((8 : Int) < (s.size : Int)) = false := decide_eq_false (by omega)
  have hsu := fun w => Tryd.strings_shouldUseASCIISet (s.size : Int) w
  rw [h8z] at hsu
  go_enter Tryd.func69, Tryd.ntmps69
  go_wp2_with (go_at_call 86; refine (hsu _).mono ?_; rintro e w' ⟨rfl, hw⟩; rw [hw])
  go_loopg [9, 10] s.size (fun g _ _ wx => ∃ i : Nat, i ≤ s.size ∧ s.size ≤ i + g ∧ Below w.heap.size w wx ∧ wx.heap[w.heap.size]? = some (.stringIter s i) ∧ Lib.NoAny s.data.toList nulCr.data.toList i)
  case atStart => exact ⟨0, Nat.zero_le _, by omega, (Below.refl _ w).alloc (Nat.le_refl _) _, World.iter_heap w s 0, Lib.NoAny.zero _ _⟩
  case round =>
    obtain ⟨i, hi, hig, hB, hit, hno⟩ := hrel
    have HN := Aside0.mk hno
    have HB := Aside0.mk hB
    have HI := Aside0.mk hit
    clear hno hB hit
    by_cases hlt : i < s.size
    · obtain ⟨g, rfl⟩ : ∃ g, gk = g + 1 := ⟨gk - 1, by omega⟩
      have hnx := fun ty => next_gen (P := Tryd.prog) wr s w.heap.size i ty HI.out hlt
      have hbs := set_below (o := .stringIter s (i + (Utf8.decode s i).2)) (w := wr) (Nat.le_refl w.heap.size)
      have hit2 : ({ wr with heap := wr.heap.setIfInBounds w.heap.size (.stringIter s (i + (Utf8.decode s i).2)) } : World).heap[w.heap.size]? = some (.stringIter s (i + (Utf8.decode s i).2)) := by
        have : w.heap.size < wr.heap.size := (Array.getElem?_eq_some_iff.1 HI.out).1
        simp [this]
      have hsz2 : w.heap.size < ({ wr with heap := wr.heap.setIfInBounds w.heap.size (.stringIter s (i + (Utf8.decode s i).2)) } : World).heap.size := by
        have : w.heap.size < wr.heap.size := (Array.getElem?_eq_some_iff.1 HI.out).1
        simpa using this
      generalize ({ wr with heap := wr.heap.setIfInBounds w.heap.size (.stringIter s (i + (Utf8.decode s i).2)) } : World) = w2 at hnx hbs hit2 hsz2
      have hle := decode_le s i
      have HB2 := Aside0.mk (HB.out.trans hbs)
      have HI2 := Aside0.mk hit2
      have HS2 := Aside0.mk hsz2
      clear hbs hit2 hsz2
      by_cases hx : (s[i]'hlt).toNat < 128
      · have hde := decode_ascii s i hlt hx
        obtain ⟨x, hxe⟩ : ∃ x : UInt8, s[i]'hlt = x := ⟨_, rfl⟩
        rw [hxe] at hde hx
        have hxl : s.data.toList[i]? = some x := by rw [← hxe]; exact Lib.data_getElem? s i hlt
        rw [hde] at hnx HI2
        have hback : ((x.toNat : Int)).toNat.toUInt8 = x := by simp
        have hru := rune_any (x.toNat : Int) w2 (by omega) (by omega)
        rw [if_pos (by omega), hback] at hru
        have hcon := Lib.contains_iff_indexByte nulCr.data.toList x
        have HX := Aside0.mk hxl
        clear hde hxl hback hxe hle
        cases hin : nulCr.data.toList.contains x with
        | false =>
          rw [hin] at hcon
          have hl : ¬ ((0 : Int) ≤ Lib.indexByte nulCr.data.toList x) := of_decide_eq_false hcon.symm
          have HC := Aside0.mk hin
          clear hcon hin
          generalize Lib.indexByte nulCr.data.toList x = k at hru hl
          go_wp2_with (go_at_call 85; refine hru.mono ?_; rintro e w3 ⟨rfl, hb⟩)
          go_roundg g
          case measure => omega
          case rel => exact ⟨i + 1, by omega, by omega, HB2.out.trans (hb.mono (by have := HS2.out; omega)), (hb.block _ HS2.out).trans HI2.out, HN.out.succ HX.out HC.out⟩
        | true =>
          rw [hin] at hcon
          have hl : ((0 : Int) ≤ Lib.indexByte nulCr.data.toList x) := of_decide_eq_true hcon.symm
          have HC := Aside0.mk hin
          clear hcon hin
          generalize Lib.indexByte nulCr.data.toList x = k at hru hl
          go_wp2_with (go_at_call 85; refine hru.mono ?_; rintro e w3 ⟨rfl, hb⟩)
          go_ret
          exact ⟨by rw [Lib.indexAny_hit HN.out HX.out HC.out]; rfl, HB2.out.trans (hb.mono (by have := HS2.out; omega))⟩
      · have hx' : 128 ≤ (s[i]'hlt).toNat := by omega
        obtain ⟨h1, h2⟩ := decode_high s i hlt hx'
        obtain ⟨d1, d2, d3⟩ := decode_step s i hlt hx'
        have hru := rune_any ((Utf8.decode s i).1 : Int) w2 (by omega) (by omega)
        rw [if_neg (by omega)] at hru
        have HD := Aside0.mk d3
        clear d3 hx hx' h1 h2 hle
        generalize Utf8.decode s i = dd at *
        obtain ⟨c, n⟩ := dd
        simp only at *
        go_wp2_with (go_at_call 85; refine hru.mono ?_; rintro e w3 ⟨rfl, hb⟩)
        go_roundg g
        case measure => omega
        case rel => exact ⟨i + n, d1, by omega, HB2.out.trans (hb.mono (by have := HS2.out; omega)), (hb.block _ HS2.out).trans HI2.out, NoAny_skip HN.out HD.out⟩
    · obtain rfl : i = s.size := by omega
      have hnx := fun ty => next_gen_end (P := Tryd.prog) wr s w.heap.size s.size ty HI.out hlt
      go_wp2
      go_ret
      exact ⟨by rw [Lib.indexAny_none (by rw [← Lib.size_eq]; exact HN.out)]; rfl, HB.out⟩
set_option maxRecDepth 1000000 in
theorem indexAny_all (s : ByteArray) (w : World) (hs : s.size < 4294967281) :
    Calls Tryd.prog 69 #[.string s, .string nulCr] w fun e w' => e = .returned (.int .i64 (Lib.indexAny s.data.toList nulCr.data.toList)) ∧ Below w.heap.size w w' := by
  by_cases h8 : s.size ≤ 8
  · exact indexAny_short s w h8
  · refine (Tryd.strings_IndexAny_long (zero_of_info zero256).1 s nulCr w (by decide) (by omega) hs (by decide) nulCr_small).mono ?_
    rintro e w' ⟨rfl, rfl⟩
    exact ⟨rfl, ((Below.refl _ w).alloc (Nat.le_refl _) _).alloc (by simp) _⟩
set_option maxHeartbeats 1000000 in
theorem strings_ContainsAny.calls (a0 a1 : ByteArray) (r : Bool) (w : World) (h : strings_ContainsAny.f a0 a1 = some r) :
    Calls Tryd.prog 50 #[.string a0, .string a1] w fun e w' => e = .returned (.bool r) ∧ Below w.heap.size w w' := by
  unfold strings_ContainsAny.f at h
  split at h
  case isFalse => cases h
  rename_i hs
  obtain ⟨hs, rfl⟩ := hs
  cases h
  rw [← nulCr_any]
  have hc := indexAny_all a0 w hs
  generalize Lib.indexAny a0.data.toList nulCr.data.toList = n at hc
  generalize nulCr = t at hc
  go_enter Tryd.func50, Tryd.ntmps50
  go_wp2_with (go_at_call 69; refine hc.mono ?_; rintro e w1 ⟨rfl, hb⟩)
  go_ret
  exact ⟨rfl, hb⟩
end Go.Proofs.YtpnhjipaeggcpaaDoor.X
end
section
namespace Go.Proofs.YtpnhjipaeggcpaaDoor.X
open Go.RowKit Go.Proofs.YtpnhjipaeggcpaaDoorW.PrintWords Go.Proofs.YtpnhjipaeggcpaaDoorW.PrintLast Go.Proofs.YtpnhjipaeggcpaaDoorW.PrintMore
attribute [local go_sem] max2_int min2_int max_two min_two max_three min_three max_four min_four
def chars_Right.f (a0 : ByteArray) : Option (Bool) := (utf8_ValidString.f a0).bind fun t269 => (some t269)
set_option maxHeartbeats 8000000 in
set_option maxRecDepth 100000 in
theorem chars_Right.calls (a0 : ByteArray) (r : Bool) (w : World) (h : chars_Right.f a0 = some r) (hT : WF w := by exact WF.below hT y20_) :
  Calls Tryd.prog 49 #[.string a0] w fun e w' => e = .returned (.bool r) ∧ Below w.heap.size w w' := by
 have HB := Aside0.mk (Below.refl w.heap.size w)
 have H : ((utf8_ValidString.f a0).bind fun t269 => (some t269)) = some r := h
 clear h
 replace H := Option.bind_eq_some_iff.mp H
 obtain ⟨t269, A20, H⟩ := H
 have A2 := Aside0.mk A20
 clear A20
 obtain rfl := Option.some.inj H
 go_enter Tryd.func49, Tryd.ntmps49
 go_wp2_with (first | ((with_reducible refine gate_callee (f := 68) rfl ?_); refine goesL_ (some 4) rfl rfl Tryd.func68 (by kernel_rfl) rfl #[.string a0] rfl y14_ ?_; (with_reducible refine (utf8_ValidString.calls a0 t269 _ A2.out).mono ?_); rintro e w3 ⟨rfl, hb⟩; refine ⟨_, rfl, ?_⟩; have n0_ := Aside0.mk (below_step y13_ hb); clear HB; have HB := n0_; clear n0_; (try clear hb); (try clear hb2); (try clear hk); (try clear hi)))
 go_ret
 exact ⟨y11_, y13_⟩
end Go.Proofs.YtpnhjipaeggcpaaDoor.X
end
section
namespace Go.Proofs.YtpnhjipaeggcpaaDoor.X
open Go.RowKit Go.Proofs.YtpnhjipaeggcpaaDoorW.PrintWords Go.Proofs.YtpnhjipaeggcpaaDoorW.PrintLast Go.Proofs.YtpnhjipaeggcpaaDoorW.PrintMore
attribute [local go_sem] max2_int min2_int max_two min_two max_three min_three max_four min_four
def write_clean.f (a0 : ByteArray) : Option (Bool) := (chars_Right.f a0).bind fun t270 => (if t270 = true then ((strings_ContainsAny.f a0 (⟨#[0, 13]⟩ : ByteArray)).bind fun t271 => (some (!t271))) else (some false))
set_option maxHeartbeats 8000000 in
set_option maxRecDepth 100000 in
theorem write_clean.calls (a0 : ByteArray) (r : Bool) (w : World) (h : write_clean.f a0 = some r) (hT : WF w := by exact WF.below hT y20_) :
  Calls Tryd.prog 30 #[.string a0] w fun e w' => e = .returned (.bool r) ∧ Below w.heap.size w w' := by
 have HB := Aside0.mk (Below.refl w.heap.size w)
 have H : ((chars_Right.f a0).bind fun t270 => (if t270 = true then ((strings_ContainsAny.f a0 (⟨#[0, 13]⟩ : ByteArray)).bind fun t271 => (some (!t271))) else (some false))) = some r := h
 clear h
 replace H := Option.bind_eq_some_iff.mp H
 obtain ⟨t270, A20, H⟩ := H
 have A2 := Aside0.mk A20
 clear A20
 by_cases c3 : t270 = true
 ·subst c3
  rw [if_pos rfl] at H
  replace H := Option.bind_eq_some_iff.mp H
  obtain ⟨t271, A40, H⟩ := H
  have A4 := Aside0.mk A40
  clear A40
  obtain rfl := Option.some.inj H
  go_enter Tryd.func30, Tryd.ntmps30
  go_wp2_with (first | ((with_reducible refine gate_callee (f := 49) rfl ?_); refine goesL_ (some 4) rfl rfl Tryd.func49 (by kernel_rfl) rfl #[.string a0] rfl y14_ ?_; (with_reducible refine (chars_Right.calls a0 true _ A2.out).mono ?_); rintro e w5 ⟨rfl, hb⟩; refine ⟨_, rfl, ?_⟩; have n0_ := Aside0.mk (below_step y13_ hb); clear HB; have HB := n0_; clear n0_; (try clear hb); (try clear hb2); (try clear hk); (try clear hi)) | (go_at_call 50; (with_reducible refine (strings_ContainsAny.calls a0 (⟨#[0, 13]⟩ : ByteArray) t271 _ A4.out).mono ?_); rintro e w6 ⟨rfl, hb⟩; have n0_ := Aside0.mk (below_step y13_ hb); clear HB; have HB := n0_; clear n0_; (try clear hb); (try clear hb2); (try clear hk); (try clear hi)))
  go_ret
  exact ⟨y11_, y13_⟩
 ·replace c3 := Bool.eq_false_iff.mpr c3
  subst c3
  rw [if_neg (show ¬ (false = true) by decide)] at H
  obtain rfl := Option.some.inj H
  go_enter Tryd.func30, Tryd.ntmps30
  go_wp2_with (first | ((with_reducible refine gate_callee (f := 49) rfl ?_); refine goesL_ (some 4) rfl rfl Tryd.func49 (by kernel_rfl) rfl #[.string a0] rfl y14_ ?_; (with_reducible refine (chars_Right.calls a0 false _ A2.out).mono ?_); rintro e w7 ⟨rfl, hb⟩; refine ⟨_, rfl, ?_⟩; have n0_ := Aside0.mk (below_step y13_ hb); clear HB; have HB := n0_; clear n0_; (try clear hb); (try clear hb2); (try clear hk); (try clear hi)))
  go_ret
  exact ⟨y11_, y13_⟩
end Go.Proofs.YtpnhjipaeggcpaaDoor.X
end
section
namespace Go.Proofs.YtpnhjipaeggcpaaDoor.X
open Go.RowKit Go.Proofs.YtpnhjipaeggcpaaDoorW.PrintWords Go.Proofs.YtpnhjipaeggcpaaDoorW.PrintLast Go.Proofs.YtpnhjipaeggcpaaDoorW.PrintMore
attribute [local go_sem] max2_int min2_int max_two min_two max_three min_three max_four min_four
def write_comment.f (a0 : ByteArray) : Option (Bool) := (write_clean.f a0).bind fun t273 => (if t273 = true then ((strings_Contains.f a0 (⟨#[45, 45, 62]⟩ : ByteArray)).bind fun t274 => (if t274 = true then (some false) else ((strings_Contains.f a0 (⟨#[45, 45, 33, 62]⟩ : ByteArray)).bind fun t275 => (if t275 = true then (some false) else ((strings_HasPrefix.f a0 (⟨#[62]⟩ : ByteArray)).bind fun t276 => (if t276 = true then (some false) else ((strings_HasPrefix.f a0 (⟨#[45, 62]⟩ : ByteArray)).bind fun t277 => (some (!t277))))))))) else (some false))
set_option maxHeartbeats 8000000 in
set_option maxRecDepth 100000 in
theorem write_comment.calls (a0 : ByteArray) (r : Bool) (w : World) (h : write_comment.f a0 = some r) (hT : WF w := by exact WF.below hT y20_) :
  Calls Tryd.prog 31 #[.string a0] w fun e w' => e = .returned (.bool r) ∧ Below w.heap.size w w' := by
 have HB := Aside0.mk (Below.refl w.heap.size w)
 have H : ((write_clean.f a0).bind fun t273 => (if t273 = true then ((strings_Contains.f a0 (⟨#[45, 45, 62]⟩ : ByteArray)).bind fun t274 => (if t274 = true then (some false) else ((strings_Contains.f a0 (⟨#[45, 45, 33, 62]⟩ : ByteArray)).bind fun t275 => (if t275 = true then (some false) else ((strings_HasPrefix.f a0 (⟨#[62]⟩ : ByteArray)).bind fun t276 => (if t276 = true then (some false) else ((strings_HasPrefix.f a0 (⟨#[45, 62]⟩ : ByteArray)).bind fun t277 => (some (!t277))))))))) else (some false))) = some r := h
 clear h
 replace H := Option.bind_eq_some_iff.mp H
 obtain ⟨t273, A20, H⟩ := H
 have A2 := Aside0.mk A20
 clear A20
 by_cases c3 : t273 = true
 ·subst c3
  rw [if_pos rfl] at H
  replace H := Option.bind_eq_some_iff.mp H
  obtain ⟨t274, A40, H⟩ := H
  have A4 := Aside0.mk A40
  clear A40
  by_cases c5 : t274 = true
  ·subst c5
   rw [if_pos rfl] at H
   obtain rfl := Option.some.inj H
   go_enter Tryd.func31, Tryd.ntmps31
   go_wp2_with (first | ((with_reducible refine gate_callee (f := 30) rfl ?_); refine goesL_ (some 4) rfl rfl Tryd.func30 (by kernel_rfl) rfl #[.string a0] rfl y14_ ?_; (with_reducible refine (write_clean.calls a0 true _ A2.out).mono ?_); rintro e w6 ⟨rfl, hb⟩; refine ⟨_, rfl, ?_⟩; have n0_ := Aside0.mk (below_step y13_ hb); clear HB; have HB := n0_; clear n0_; (try clear hb); (try clear hb2); (try clear hk); (try clear hi)) | (go_at_call 51; (with_reducible refine (strings_Contains.calls a0 (⟨#[45, 45, 62]⟩ : ByteArray) true _ A4.out).mono ?_); rintro e w7 ⟨rfl, hb⟩; have n0_ := Aside0.mk (below_step y13_ hb); clear HB; have HB := n0_; clear n0_; (try clear hb); (try clear hb2); (try clear hk); (try clear hi)))
   go_ret
   exact ⟨y11_, y13_⟩
  ·replace c5 := Bool.eq_false_iff.mpr c5
   subst c5
   rw [if_neg (show ¬ (false = true) by decide)] at H
   replace H := Option.bind_eq_some_iff.mp H
   obtain ⟨t275, A80, H⟩ := H
   have A8 := Aside0.mk A80
   clear A80
   by_cases c9 : t275 = true
   ·subst c9
    rw [if_pos rfl] at H
    obtain rfl := Option.some.inj H
    go_enter Tryd.func31, Tryd.ntmps31
    go_wp2_with (first | ((with_reducible refine gate_callee (f := 30) rfl ?_); refine goesL_ (some 4) rfl rfl Tryd.func30 (by kernel_rfl) rfl #[.string a0] rfl y14_ ?_; (with_reducible refine (write_clean.calls a0 true _ A2.out).mono ?_); rintro e w10 ⟨rfl, hb⟩; refine ⟨_, rfl, ?_⟩; have n0_ := Aside0.mk (below_step y13_ hb); clear HB; have HB := n0_; clear n0_; (try clear hb); (try clear hb2); (try clear hk); (try clear hi)) | (go_at_call 51; (with_reducible refine (strings_Contains.calls a0 (⟨#[45, 45, 62]⟩ : ByteArray) false _ A4.out).mono ?_); rintro e w11 ⟨rfl, hb⟩; have n0_ := Aside0.mk (below_step y13_ hb); clear HB; have HB := n0_; clear n0_; (try clear hb); (try clear hb2); (try clear hk); (try clear hi)) | (go_at_call 51; (with_reducible refine (strings_Contains.calls a0 (⟨#[45, 45, 33, 62]⟩ : ByteArray) true _ A8.out).mono ?_); rintro e w12 ⟨rfl, hb⟩; have n0_ := Aside0.mk (below_step y13_ hb); clear HB; have HB := n0_; clear n0_; (try clear hb); (try clear hb2); (try clear hk); (try clear hi)))
    go_ret
    exact ⟨y11_, y13_⟩
   ·replace c9 := Bool.eq_false_iff.mpr c9
    subst c9
    rw [if_neg (show ¬ (false = true) by decide)] at H
    replace H := Option.bind_eq_some_iff.mp H
    obtain ⟨t276, A130, H⟩ := H
    have A13 := Aside0.mk A130
    clear A130
    by_cases c14 : t276 = true
    ·subst c14
     rw [if_pos rfl] at H
     obtain rfl := Option.some.inj H
     go_enter Tryd.func31, Tryd.ntmps31
     go_wp2_with (first | ((with_reducible refine gate_callee (f := 30) rfl ?_); refine goesL_ (some 4) rfl rfl Tryd.func30 (by kernel_rfl) rfl #[.string a0] rfl y14_ ?_; (with_reducible refine (write_clean.calls a0 true _ A2.out).mono ?_); rintro e w15 ⟨rfl, hb⟩; refine ⟨_, rfl, ?_⟩; have n0_ := Aside0.mk (below_step y13_ hb); clear HB; have HB := n0_; clear n0_; (try clear hb); (try clear hb2); (try clear hk); (try clear hi)) | (go_at_call 51; (with_reducible refine (strings_Contains.calls a0 (⟨#[45, 45, 62]⟩ : ByteArray) false _ A4.out).mono ?_); rintro e w16 ⟨rfl, hb⟩; have n0_ := Aside0.mk (below_step y13_ hb); clear HB; have HB := n0_; clear n0_; (try clear hb); (try clear hb2); (try clear hk); (try clear hi)) | (go_at_call 51; (with_reducible refine (strings_Contains.calls a0 (⟨#[45, 45, 33, 62]⟩ : ByteArray) false _ A8.out).mono ?_); rintro e w17 ⟨rfl, hb⟩; have n0_ := Aside0.mk (below_step y13_ hb); clear HB; have HB := n0_; clear n0_; (try clear hb); (try clear hb2); (try clear hk); (try clear hi)) | (go_at_call 52; (with_reducible refine (strings_HasPrefix.calls a0 (⟨#[62]⟩ : ByteArray) true _ A13.out).mono ?_); rintro e w' ⟨rfl, ⟨nd, rfl⟩⟩))
     go_ret
     exact ⟨y11_, y13_⟩
    ·replace c14 := Bool.eq_false_iff.mpr c14
     subst c14
     rw [if_neg (show ¬ (false = true) by decide)] at H
     replace H := Option.bind_eq_some_iff.mp H
     obtain ⟨t277, A180, H⟩ := H
     have A18 := Aside0.mk A180
     clear A180
     obtain rfl := Option.some.inj H
     go_enter Tryd.func31, Tryd.ntmps31
     go_wp2_with (first | ((with_reducible refine gate_callee (f := 30) rfl ?_); refine goesL_ (some 4) rfl rfl Tryd.func30 (by kernel_rfl) rfl #[.string a0] rfl y14_ ?_; (with_reducible refine (write_clean.calls a0 true _ A2.out).mono ?_); rintro e w19 ⟨rfl, hb⟩; refine ⟨_, rfl, ?_⟩; have n0_ := Aside0.mk (below_step y13_ hb); clear HB; have HB := n0_; clear n0_; (try clear hb); (try clear hb2); (try clear hk); (try clear hi)) | (go_at_call 51; (with_reducible refine (strings_Contains.calls a0 (⟨#[45, 45, 62]⟩ : ByteArray) false _ A4.out).mono ?_); rintro e w20 ⟨rfl, hb⟩; have n0_ := Aside0.mk (below_step y13_ hb); clear HB; have HB := n0_; clear n0_; (try clear hb); (try clear hb2); (try clear hk); (try clear hi)) | (go_at_call 51; (with_reducible refine (strings_Contains.calls a0 (⟨#[45, 45, 33, 62]⟩ : ByteArray) false _ A8.out).mono ?_); rintro e w21 ⟨rfl, hb⟩; have n0_ := Aside0.mk (below_step y13_ hb); clear HB; have HB := n0_; clear n0_; (try clear hb); (try clear hb2); (try clear hk); (try clear hi)) | (go_at_call 52; (with_reducible refine (strings_HasPrefix.calls a0 (⟨#[62]⟩ : ByteArray) false _ A13.out).mono ?_); rintro e w' ⟨rfl, ⟨nd, rfl⟩⟩) | (go_at_call 52; (with_reducible refine (strings_HasPrefix.calls a0 (⟨#[45, 62]⟩ : ByteArray) t277 _ A18.out).mono ?_); rintro e w' ⟨rfl, ⟨nd, rfl⟩⟩))
     go_ret
     exact ⟨y11_, y13_⟩
 ·replace c3 := Bool.eq_false_iff.mpr c3
  subst c3
  rw [if_neg (show ¬ (false = true) by decide)] at H
  obtain rfl := Option.some.inj H
  go_enter Tryd.func31, Tryd.ntmps31
  go_wp2_with (first | ((with_reducible refine gate_callee (f := 30) rfl ?_); refine goesL_ (some 4) rfl rfl Tryd.func30 (by kernel_rfl) rfl #[.string a0] rfl y14_ ?_; (with_reducible refine (write_clean.calls a0 false _ A2.out).mono ?_); rintro e w22 ⟨rfl, hb⟩; refine ⟨_, rfl, ?_⟩; have n0_ := Aside0.mk (below_step y13_ hb); clear HB; have HB := n0_; clear n0_; (try clear hb); (try clear hb2); (try clear hk); (try clear hi)))
  go_ret
  exact ⟨y11_, y13_⟩
end Go.Proofs.YtpnhjipaeggcpaaDoor.X
end
section
namespace Go.Proofs.YtpnhjipaeggcpaaDoor.X
open Go.RowKit Go.Proofs.YtpnhjipaeggcpaaDoorW.PrintWords Go.Proofs.YtpnhjipaeggcpaaDoorW.PrintLast Go.Proofs.YtpnhjipaeggcpaaDoorW.PrintMore
attribute [local go_sem] max2_int min2_int max_two min_two max_three min_three max_four min_four
mutual
def write_element.j0 : Nat → Bool → Int → Int → ByteArray → ByteArray → List (S41) → Option (Bool)
 | 0, _, _, _, _, _, _ => none
 | k + 1, x28, x370000, x370001, x370002, x370003, x370004 => if x28 = true then (some false) else (write_element.l0 k x370004 (x370004.length : Int) 0)
def write_element.l0 : Nat → List (S41) → Int → Int → Option (Bool)
 | 0, _, _, _ => none
 | k + 1, x30, x31, x32 => if x32 < x31 then (if 0 ≤ x32 then (if x32 < (x30.length : Int) then ((names_Attr.f k ((rd_T41 x30 x32).f0)).bind fun t376 => (if t376 = true then ((write_clean.f ((rd_T41 x30 x32).f0)).bind fun t377 => (if t377 = true then ((write_clean.f ((rd_T41 x30 x32).f1)).bind fun t378 => (if t378 = true then (write_element.l0 k x30 x31 (wrap64 (x32 + 1))) else (some false))) else (some false))) else (some false))) else (none)) else (none)) else (some true)
end
def write_element.f (k : Nat) (a0_0 : Int) (a0_1 : Int) (a0_2 : ByteArray) (a0_3 : ByteArray) (l0_4 : List (S41)) (l1 : List ByteArray) : Option (Bool) := (names_Right.f k a0_2).bind fun t370 => (if t370 = true then ((names_Gone.f k a0_2).bind fun t371 => (if t371 = true then (write_element.j0 k true a0_0 a0_1 a0_2 a0_3 l0_4) else ((write_clean.f a0_2).bind fun t372 => (if t372 = true then ((build_Nested.f k a0_2 l1).bind fun t373 => (write_element.j0 k (!t373) a0_0 a0_1 a0_2 a0_3 l0_4)) else (write_element.j0 k true a0_0 a0_1 a0_2 a0_3 l0_4))))) else (write_element.j0 k true a0_0 a0_1 a0_2 a0_3 l0_4))
set_option maxHeartbeats 8000000 in
set_option maxRecDepth 100000 in
theorem write_element.calls (k : Nat) (a0_0 : Int) (a0_1 : Int) (a0_2 : ByteArray) (a0_3 : ByteArray) (A0_4 : Option Addr) (c0_4 : Nat) (l0_4 : List (S41)) (A1 : Option Addr) (c1 : Nat) (l1 : List ByteArray) (r : Bool) (w : World) (hr0_4 : Kd.C k41 w A0_4 l0_4.length l0_4) (hc0_4 : l0_4.length ≤ c0_4) (hr1 : Kd.C Kd.string w A1 l1.length l1) (hc1 : l1.length ≤ c1) (h : write_element.f k a0_0 a0_1 a0_2 a0_3 l0_4 l1 = some r) (hT : WF w := by exact WF.below hT y20_) :
  Calls Tryd.prog 32 #[.agg #[.int .i64 a0_0, .int .i64 a0_1, .string a0_2, .string a0_3, .slice A0_4 l0_4.length c0_4], .slice A1 l1.length c1] w fun e w' => e = .returned (.bool r) ∧ Below w.heap.size w w' := by
 have hu35 := Tryd.underlying35
 have hu41 := Tryd.underlying41
 have HR0_4 := Aside0.mk hr0_4
 have HC0_4 := Aside0.mk hc0_4
 clear hr0_4 hc0_4
 have HR1 := Aside0.mk hr1
 have HC1 := Aside0.mk hc1
 clear hr1 hc1
 have HB := Aside0.mk (Below.refl w.heap.size w)
 have H : ((names_Right.f k a0_2).bind fun t370 => (if t370 = true then ((names_Gone.f k a0_2).bind fun t371 => (if t371 = true then (write_element.j0 k true a0_0 a0_1 a0_2 a0_3 l0_4) else ((write_clean.f a0_2).bind fun t372 => (if t372 = true then ((build_Nested.f k a0_2 l1).bind fun t373 => (write_element.j0 k (!t373) a0_0 a0_1 a0_2 a0_3 l0_4)) else (write_element.j0 k true a0_0 a0_1 a0_2 a0_3 l0_4))))) else (write_element.j0 k true a0_0 a0_1 a0_2 a0_3 l0_4))) = some r := h
 clear h
 have HC3 := Aside0.mk H
 clear H
 go_enter Tryd.func32, Tryd.ntmps32
 go_upto_region 1 with (first | ((with_reducible refine gate_dst (N := 2) rfl ?_); refine box_event ?hg (N := 2) ?hd (cs := #[.int .i64 a0_0, .int .i64 a0_1, .string a0_2, .string a0_3, .slice A0_4 l0_4.length c0_4]) (t := 35) ?hr ?_; (case hd => rfl); (case hg => rfl); (case hr => first | (go_simp; done) | (go_simp; rfl)); intro gb369 hg w4 hbox hb; have n0_ := Aside0.mk (below_step y13_ hb); have n1_ := Aside0.mk (hbox); have n2_ := Aside0.mk ((by rw [hg]; exact (below_size y13_) : w.heap.size ≤ gb369)); have n3_ := Aside0.mk ((by rw [hg]; exact (below_size y13_) : w.heap.size ≤ gb369)); clear HB; have HB := n0_; have BK369 := n1_; have GW369 := n2_; have GE369 := n3_; clear n0_ n1_ n2_ n3_; clear hb hbox hg))
 (try simp only [Act.put, List.setIfInBounds_toArray, List.set_cons_zero, List.set_cons_succ])
 go_cut [28] (fun v28 wc => ∃ (kq : Nat) (x28_2 : Bool), v28 = .bool x28_2 ∧ Aside0 (write_element.j0 kq x28_2 a0_0 a0_1 a0_2 a0_3 l0_4 = some r) ∧ Aside0 (kq ≤ k) ∧ Aside0 (wc.heap[gb369]? = some (.cells #[.int .i64 a0_0, .int .i64 a0_1, .string a0_2, .string a0_3, (.slice A0_4 l0_4.length c0_4)] 35 (0, 0))) ∧ Aside0 (Below w.heap.size w wc))
 case first =>
  have H := HC3.out
  clear HC3
  replace H := Option.bind_eq_some_iff.mp H
  obtain ⟨t370, A50, H⟩ := H
  have A5 := Aside0.mk A50
  clear A50
  by_cases c6 : t370 = true
  ·subst c6
   rw [if_pos rfl] at H
   replace H := Option.bind_eq_some_iff.mp H
   obtain ⟨t371, A70, H⟩ := H
   have A7 := Aside0.mk A70
   clear A70
   by_cases c8 : t371 = true
   ·subst c8
    rw [if_pos rfl] at H
    have H' := Aside0.mk H
    clear H
    have hcz9_0 : w4.cell? ⟨gb369, 0, none⟩ = some (.int .i64 a0_0) := (blk_cell BK369.out 0).trans rfl
    have hcz9_1 : w4.cell? ⟨gb369, 1, none⟩ = some (.int .i64 a0_1) := (blk_cell BK369.out 1).trans rfl
    have hcz9_2 : w4.cell? ⟨gb369, 2, none⟩ = some (.string a0_2) := (blk_cell BK369.out 2).trans rfl
    have hcz9_3 : w4.cell? ⟨gb369, 3, none⟩ = some (.string a0_3) := (blk_cell BK369.out 3).trans rfl
    have hcz9_4 : w4.cell? ⟨gb369, 4, none⟩ = some (.slice A0_4 l0_4.length c0_4) := (blk_cell BK369.out 4).trans rfl
    have hfz9_0 := blk_frozen BK369.out 0
    have hfz9_1 := blk_frozen BK369.out 1
    have hfz9_2 := blk_frozen BK369.out 2
    have hfz9_3 := blk_frozen BK369.out 3
    have hfz9_4 := blk_frozen BK369.out 4
    go_wp2_with (first | ((with_reducible refine gate_callee (f := 53) rfl ?_); refine goesL_ (some 9) rfl rfl Tryd.func53 (by kernel_rfl) rfl #[.string a0_2] rfl y14_ ?_; (with_reducible refine (names_Right.calls k a0_2 true _ A5.out).mono ?_); rintro e w' ⟨rfl, ⟨nd, rfl⟩⟩; refine ⟨_, rfl, ?_⟩) | (go_at_call 54; (with_reducible refine (names_Gone.calls k a0_2 true _ A7.out).mono ?_); rintro e w10 ⟨rfl, hb⟩; have n0_ := Aside0.mk (blk_below (g := gb369) (o := .cells #[.int .i64 a0_0, .int .i64 a0_1, .string a0_2, .string a0_3, .slice A0_4 l0_4.length c0_4] 35 (0, 0)) (y10_ BK369.out) hb); have n1_ := Aside0.mk (below_step (y17_ GE369.out) hb); clear BK369; clear HB; have BK369 := n0_; have HB := n1_; clear n0_ n1_; (try clear hb); (try clear hb2); (try clear hk); (try clear hi)))
    go_meet
    case rel => exact ⟨_, (true), y4_, H', ⟨y1_⟩, ⟨by (with_reducible repeat (first | refine blk_drewN ?_ _ | refine blk_drew ?_ | refine blk_alloc ?_ _)); exact BK369.out⟩, ⟨(y17_ GE369.out)⟩⟩
   ·replace c8 := Bool.eq_false_iff.mpr c8
    subst c8
    rw [if_neg (show ¬ (false = true) by decide)] at H
    replace H := Option.bind_eq_some_iff.mp H
    obtain ⟨t372, A110, H⟩ := H
    have A11 := Aside0.mk A110
    clear A110
    by_cases c12 : t372 = true
    ·subst c12
     rw [if_pos rfl] at H
     replace H := Option.bind_eq_some_iff.mp H
     obtain ⟨t373, A130, H⟩ := H
     have A13 := Aside0.mk A130
     clear A130
     have H' := Aside0.mk H
     clear H
     have hcz14_0 : w4.cell? ⟨gb369, 0, none⟩ = some (.int .i64 a0_0) := (blk_cell BK369.out 0).trans rfl
     have hcz14_1 : w4.cell? ⟨gb369, 1, none⟩ = some (.int .i64 a0_1) := (blk_cell BK369.out 1).trans rfl
     have hcz14_2 : w4.cell? ⟨gb369, 2, none⟩ = some (.string a0_2) := (blk_cell BK369.out 2).trans rfl
     have hcz14_3 : w4.cell? ⟨gb369, 3, none⟩ = some (.string a0_3) := (blk_cell BK369.out 3).trans rfl
     have hcz14_4 : w4.cell? ⟨gb369, 4, none⟩ = some (.slice A0_4 l0_4.length c0_4) := (blk_cell BK369.out 4).trans rfl
     have hfz14_0 := blk_frozen BK369.out 0
     have hfz14_1 := blk_frozen BK369.out 1
     have hfz14_2 := blk_frozen BK369.out 2
     have hfz14_3 := blk_frozen BK369.out 3
     have hfz14_4 := blk_frozen BK369.out 4
     go_wp2_with (first | ((with_reducible refine gate_callee (f := 53) rfl ?_); refine goesL_ (some 9) rfl rfl Tryd.func53 (by kernel_rfl) rfl #[.string a0_2] rfl y14_ ?_; (with_reducible refine (names_Right.calls k a0_2 true _ A5.out).mono ?_); rintro e w' ⟨rfl, ⟨nd, rfl⟩⟩; refine ⟨_, rfl, ?_⟩) | (go_at_call 54; (with_reducible refine (names_Gone.calls k a0_2 false _ A7.out).mono ?_); rintro e w15 ⟨rfl, hb⟩; have n0_ := Aside0.mk (blk_below (g := gb369) (o := .cells #[.int .i64 a0_0, .int .i64 a0_1, .string a0_2, .string a0_3, .slice A0_4 l0_4.length c0_4] 35 (0, 0)) (y10_ BK369.out) hb); have n1_ := Aside0.mk (below_step (y17_ GE369.out) hb); clear BK369; clear HB; have BK369 := n0_; have HB := n1_; clear n0_ n1_; (try clear hb); (try clear hb2); (try clear hk); (try clear hi); have hcz16_0 : w15.cell? ⟨gb369, 0, none⟩ = some (.int .i64 a0_0) := (blk_cell BK369.out 0).trans rfl; have hcz16_1 : w15.cell? ⟨gb369, 1, none⟩ = some (.int .i64 a0_1) := (blk_cell BK369.out 1).trans rfl; have hcz16_2 : w15.cell? ⟨gb369, 2, none⟩ = some (.string a0_2) := (blk_cell BK369.out 2).trans rfl; have hcz16_3 : w15.cell? ⟨gb369, 3, none⟩ = some (.string a0_3) := (blk_cell BK369.out 3).trans rfl; have hcz16_4 : w15.cell? ⟨gb369, 4, none⟩ = some (.slice A0_4 l0_4.length c0_4) := (blk_cell BK369.out 4).trans rfl; have hfz16_0 := blk_frozen BK369.out 0; have hfz16_1 := blk_frozen BK369.out 1; have hfz16_2 := blk_frozen BK369.out 2; have hfz16_3 := blk_frozen BK369.out 3; have hfz16_4 := blk_frozen BK369.out 4) | (go_at_call 30; (with_reducible refine (write_clean.calls a0_2 true _ A11.out).mono ?_); rintro e w17 ⟨rfl, hb⟩; have n0_ := Aside0.mk (blk_below (g := gb369) (o := .cells #[.int .i64 a0_0, .int .i64 a0_1, .string a0_2, .string a0_3, .slice A0_4 l0_4.length c0_4] 35 (0, 0)) (y10_ BK369.out) hb); have n1_ := Aside0.mk (below_step (y17_ GE369.out) hb); clear BK369; clear HB; have BK369 := n0_; have HB := n1_; clear n0_ n1_; (try clear hb); (try clear hb2); (try clear hk); (try clear hi); have hcz18_0 : w17.cell? ⟨gb369, 0, none⟩ = some (.int .i64 a0_0) := (blk_cell BK369.out 0).trans rfl; have hcz18_1 : w17.cell? ⟨gb369, 1, none⟩ = some (.int .i64 a0_1) := (blk_cell BK369.out 1).trans rfl; have hcz18_2 : w17.cell? ⟨gb369, 2, none⟩ = some (.string a0_2) := (blk_cell BK369.out 2).trans rfl; have hcz18_3 : w17.cell? ⟨gb369, 3, none⟩ = some (.string a0_3) := (blk_cell BK369.out 3).trans rfl; have hcz18_4 : w17.cell? ⟨gb369, 4, none⟩ = some (.slice A0_4 l0_4.length c0_4) := (blk_cell BK369.out 4).trans rfl; have hfz18_0 := blk_frozen BK369.out 0; have hfz18_1 := blk_frozen BK369.out 1; have hfz18_2 := blk_frozen BK369.out 2; have hfz18_3 := blk_frozen BK369.out 3; have hfz18_4 := blk_frozen BK369.out 4) | (go_at_call 55; (with_reducible refine (build_Nested.calls k a0_2 _ _ l1 t373 _ ?side1 ?side2 A13.out).mono ?_); (case side1 => repeat (first | exact (Kd.C_below HR1.out HB.out) | (with_reducible refine Kd.C_alloc ?_ _) | (with_reducible refine Kd.C_drewN ?_ _) | (with_reducible refine Kd.C_drew ?_))); (case side2 => exact HC1.out); rintro e w19 ⟨rfl, hb⟩; have n0_ := Aside0.mk (blk_below (g := gb369) (o := .cells #[.int .i64 a0_0, .int .i64 a0_1, .string a0_2, .string a0_3, .slice A0_4 l0_4.length c0_4] 35 (0, 0)) (y10_ BK369.out) hb); have n1_ := Aside0.mk (below_step (y17_ GE369.out) hb); clear BK369; clear HB; have BK369 := n0_; have HB := n1_; clear n0_ n1_; (try clear hb); (try clear hb2); (try clear hk); (try clear hi)))
     go_meet
     case rel => exact ⟨_, (!t373), y4_, H', ⟨y1_⟩, ⟨by (with_reducible repeat (first | refine blk_drewN ?_ _ | refine blk_drew ?_ | refine blk_alloc ?_ _)); exact BK369.out⟩, ⟨(y17_ GE369.out)⟩⟩
    ·replace c12 := Bool.eq_false_iff.mpr c12
     subst c12
     rw [if_neg (show ¬ (false = true) by decide)] at H
     have H' := Aside0.mk H
     clear H
     have hcz20_0 : w4.cell? ⟨gb369, 0, none⟩ = some (.int .i64 a0_0) := (blk_cell BK369.out 0).trans rfl
     have hcz20_1 : w4.cell? ⟨gb369, 1, none⟩ = some (.int .i64 a0_1) := (blk_cell BK369.out 1).trans rfl
     have hcz20_2 : w4.cell? ⟨gb369, 2, none⟩ = some (.string a0_2) := (blk_cell BK369.out 2).trans rfl
     have hcz20_3 : w4.cell? ⟨gb369, 3, none⟩ = some (.string a0_3) := (blk_cell BK369.out 3).trans rfl
     have hcz20_4 : w4.cell? ⟨gb369, 4, none⟩ = some (.slice A0_4 l0_4.length c0_4) := (blk_cell BK369.out 4).trans rfl
     have hfz20_0 := blk_frozen BK369.out 0
     have hfz20_1 := blk_frozen BK369.out 1
     have hfz20_2 := blk_frozen BK369.out 2
     have hfz20_3 := blk_frozen BK369.out 3
     have hfz20_4 := blk_frozen BK369.out 4
     go_wp2_with (first | ((with_reducible refine gate_callee (f := 53) rfl ?_); refine goesL_ (some 9) rfl rfl Tryd.func53 (by kernel_rfl) rfl #[.string a0_2] rfl y14_ ?_; (with_reducible refine (names_Right.calls k a0_2 true _ A5.out).mono ?_); rintro e w' ⟨rfl, ⟨nd, rfl⟩⟩; refine ⟨_, rfl, ?_⟩) | (go_at_call 54; (with_reducible refine (names_Gone.calls k a0_2 false _ A7.out).mono ?_); rintro e w21 ⟨rfl, hb⟩; have n0_ := Aside0.mk (blk_below (g := gb369) (o := .cells #[.int .i64 a0_0, .int .i64 a0_1, .string a0_2, .string a0_3, .slice A0_4 l0_4.length c0_4] 35 (0, 0)) (y10_ BK369.out) hb); have n1_ := Aside0.mk (below_step (y17_ GE369.out) hb); clear BK369; clear HB; have BK369 := n0_; have HB := n1_; clear n0_ n1_; (try clear hb); (try clear hb2); (try clear hk); (try clear hi); have hcz22_0 : w21.cell? ⟨gb369, 0, none⟩ = some (.int .i64 a0_0) := (blk_cell BK369.out 0).trans rfl; have hcz22_1 : w21.cell? ⟨gb369, 1, none⟩ = some (.int .i64 a0_1) := (blk_cell BK369.out 1).trans rfl; have hcz22_2 : w21.cell? ⟨gb369, 2, none⟩ = some (.string a0_2) := (blk_cell BK369.out 2).trans rfl; have hcz22_3 : w21.cell? ⟨gb369, 3, none⟩ = some (.string a0_3) := (blk_cell BK369.out 3).trans rfl; have hcz22_4 : w21.cell? ⟨gb369, 4, none⟩ = some (.slice A0_4 l0_4.length c0_4) := (blk_cell BK369.out 4).trans rfl; have hfz22_0 := blk_frozen BK369.out 0; have hfz22_1 := blk_frozen BK369.out 1; have hfz22_2 := blk_frozen BK369.out 2; have hfz22_3 := blk_frozen BK369.out 3; have hfz22_4 := blk_frozen BK369.out 4) | (go_at_call 30; (with_reducible refine (write_clean.calls a0_2 false _ A11.out).mono ?_); rintro e w23 ⟨rfl, hb⟩; have n0_ := Aside0.mk (blk_below (g := gb369) (o := .cells #[.int .i64 a0_0, .int .i64 a0_1, .string a0_2, .string a0_3, .slice A0_4 l0_4.length c0_4] 35 (0, 0)) (y10_ BK369.out) hb); have n1_ := Aside0.mk (below_step (y17_ GE369.out) hb); clear BK369; clear HB; have BK369 := n0_; have HB := n1_; clear n0_ n1_; (try clear hb); (try clear hb2); (try clear hk); (try clear hi)))
     go_meet
     case rel => exact ⟨_, (true), y4_, H', ⟨y1_⟩, ⟨by (with_reducible repeat (first | refine blk_drewN ?_ _ | refine blk_drew ?_ | refine blk_alloc ?_ _)); exact BK369.out⟩, ⟨(y17_ GE369.out)⟩⟩
  ·replace c6 := Bool.eq_false_iff.mpr c6
   subst c6
   rw [if_neg (show ¬ (false = true) by decide)] at H
   have H' := Aside0.mk H
   clear H
   have hcz24_0 : w4.cell? ⟨gb369, 0, none⟩ = some (.int .i64 a0_0) := (blk_cell BK369.out 0).trans rfl
   have hcz24_1 : w4.cell? ⟨gb369, 1, none⟩ = some (.int .i64 a0_1) := (blk_cell BK369.out 1).trans rfl
   have hcz24_2 : w4.cell? ⟨gb369, 2, none⟩ = some (.string a0_2) := (blk_cell BK369.out 2).trans rfl
   have hcz24_3 : w4.cell? ⟨gb369, 3, none⟩ = some (.string a0_3) := (blk_cell BK369.out 3).trans rfl
   have hcz24_4 : w4.cell? ⟨gb369, 4, none⟩ = some (.slice A0_4 l0_4.length c0_4) := (blk_cell BK369.out 4).trans rfl
   have hfz24_0 := blk_frozen BK369.out 0
   have hfz24_1 := blk_frozen BK369.out 1
   have hfz24_2 := blk_frozen BK369.out 2
   have hfz24_3 := blk_frozen BK369.out 3
   have hfz24_4 := blk_frozen BK369.out 4
   go_wp2_with (first | ((with_reducible refine gate_callee (f := 53) rfl ?_); refine goesL_ (some 9) rfl rfl Tryd.func53 (by kernel_rfl) rfl #[.string a0_2] rfl y14_ ?_; (with_reducible refine (names_Right.calls k a0_2 false _ A5.out).mono ?_); rintro e w' ⟨rfl, ⟨nd, rfl⟩⟩; refine ⟨_, rfl, ?_⟩))
   go_meet
   case rel => exact ⟨_, (true), y4_, H', ⟨y1_⟩, ⟨by (with_reducible repeat (first | refine blk_drewN ?_ _ | refine blk_drew ?_ | refine blk_alloc ?_ _)); exact BK369.out⟩, ⟨(y17_ GE369.out)⟩⟩
 case rest =>
  clear HC3
  try clear c1
  try clear p2
  try clear c3
  try clear c5
  try clear c6
  try clear c8
  try clear c12
  try clear hcz14_0
  try clear hcz14_1
  try clear hcz14_2
  try clear hcz14_3
  try clear hcz14_4
  try clear hcz16_0
  try clear hcz16_1
  try clear hcz16_2
  try clear hcz16_3
  try clear hcz16_4
  try clear hcz18_0
  try clear hcz18_1
  try clear hcz18_2
  try clear hcz18_3
  try clear hcz18_4
  try clear hcz20_0
  try clear hcz20_1
  try clear hcz20_2
  try clear hcz20_3
  try clear hcz20_4
  try clear hcz22_0
  try clear hcz22_1
  try clear hcz22_2
  try clear hcz22_3
  try clear hcz22_4
  try clear hcz24_0
  try clear hcz24_1
  try clear hcz24_2
  try clear hcz24_3
  try clear hcz24_4
  try clear hcz9_0
  try clear hcz9_1
  try clear hcz9_2
  try clear hcz9_3
  try clear hcz9_4
  try clear hfz14_0
  try clear hfz14_1
  try clear hfz14_2
  try clear hfz14_3
  try clear hfz14_4
  try clear hfz16_0
  try clear hfz16_1
  try clear hfz16_2
  try clear hfz16_3
  try clear hfz16_4
  try clear hfz18_0
  try clear hfz18_1
  try clear hfz18_2
  try clear hfz18_3
  try clear hfz18_4
  try clear hfz20_0
  try clear hfz20_1
  try clear hfz20_2
  try clear hfz20_3
  try clear hfz20_4
  try clear hfz22_0
  try clear hfz22_1
  try clear hfz22_2
  try clear hfz22_3
  try clear hfz22_4
  try clear hfz24_0
  try clear hfz24_1
  try clear hfz24_2
  try clear hfz24_3
  try clear hfz24_4
  try clear hfz9_0
  try clear hfz9_1
  try clear hfz9_2
  try clear hfz9_3
  try clear hfz9_4
  obtain ⟨kq, x28_2, rfl, HA, HJ2, BK369, HB⟩ := hcut
  cases kq with
  | zero => exact absurd HA.out (by simp [write_element.j0])
  | succ kj2 =>
   have H := HA.out
   clear HA
   simp only [write_element.j0] at H
   by_cases c25 : x28_2 = true
   ·subst c25
    rw [if_pos rfl] at H
    obtain rfl := Option.some.inj H
    go_wp2
    go_ret
    exact ⟨y11_, (y17_ GE369.out)⟩
   ·replace c25 := Bool.eq_false_iff.mpr c25
    subst c25
    rw [if_neg (show ¬ (false = true) by decide)] at H
    have H' := Aside0.mk H
    clear H
    have hcz26_0 : wc.cell? ⟨gb369, 0, none⟩ = some (.int .i64 a0_0) := (blk_cell BK369.out 0).trans rfl
    have hcz26_1 : wc.cell? ⟨gb369, 1, none⟩ = some (.int .i64 a0_1) := (blk_cell BK369.out 1).trans rfl
    have hcz26_2 : wc.cell? ⟨gb369, 2, none⟩ = some (.string a0_2) := (blk_cell BK369.out 2).trans rfl
    have hcz26_3 : wc.cell? ⟨gb369, 3, none⟩ = some (.string a0_3) := (blk_cell BK369.out 3).trans rfl
    have hcz26_4 : wc.cell? ⟨gb369, 4, none⟩ = some (.slice A0_4 l0_4.length c0_4) := (blk_cell BK369.out 4).trans rfl
    have hfz26_0 := blk_frozen BK369.out 0
    have hfz26_1 := blk_frozen BK369.out 1
    have hfz26_2 := blk_frozen BK369.out 2
    have hfz26_3 := blk_frozen BK369.out 3
    have hfz26_4 := blk_frozen BK369.out 4
    go_wp2
    go_loopg [32] kj2 (fun kq v32 w' => ∃ (x32_2 : Int), v32 = .int .i64 x32_2 ∧ Aside0 (write_element.l0 kq l0_4 (l0_4.length : Int) x32_2 = some r) ∧ Aside0 (kq ≤ kj2) ∧ Aside0 (w'.heap[gb369]? = some (.cells #[.int .i64 a0_0, .int .i64 a0_1, .string a0_2, .string a0_3, (.slice A0_4 l0_4.length c0_4)] 35 (0, 0))) ∧ Aside0 (Below w.heap.size w w'))
    case atStart => exact ⟨(0), y4_, H', ⟨Nat.le_refl _⟩, ⟨by (with_reducible repeat (first | refine blk_drewN ?_ _ | refine blk_drew ?_ | refine blk_alloc ?_ _)); exact BK369.out⟩, ⟨(y17_ GE369.out)⟩⟩
    case round =>
     clear H'
     try clear c1
     try clear c2
     try clear p2
     try clear c3
     try clear c5
     try clear c6
     try clear c8
     try clear c12
     try clear c25
     try clear hcz14_0
     try clear hcz14_1
     try clear hcz14_2
     try clear hcz14_3
     try clear hcz14_4
     try clear hcz16_0
     try clear hcz16_1
     try clear hcz16_2
     try clear hcz16_3
     try clear hcz16_4
     try clear hcz18_0
     try clear hcz18_1
     try clear hcz18_2
     try clear hcz18_3
     try clear hcz18_4
     try clear hcz20_0
     try clear hcz20_1
     try clear hcz20_2
     try clear hcz20_3
     try clear hcz20_4
     try clear hcz22_0
     try clear hcz22_1
     try clear hcz22_2
     try clear hcz22_3
     try clear hcz22_4
     try clear hcz24_0
     try clear hcz24_1
     try clear hcz24_2
     try clear hcz24_3
     try clear hcz24_4
     try clear hcz26_0
     try clear hcz26_1
     try clear hcz26_2
     try clear hcz26_3
     try clear hcz26_4
     try clear hcz9_0
     try clear hcz9_1
     try clear hcz9_2
     try clear hcz9_3
     try clear hcz9_4
     try clear hfz14_0
     try clear hfz14_1
     try clear hfz14_2
     try clear hfz14_3
     try clear hfz14_4
     try clear hfz16_0
     try clear hfz16_1
     try clear hfz16_2
     try clear hfz16_3
     try clear hfz16_4
     try clear hfz18_0
     try clear hfz18_1
     try clear hfz18_2
     try clear hfz18_3
     try clear hfz18_4
     try clear hfz20_0
     try clear hfz20_1
     try clear hfz20_2
     try clear hfz20_3
     try clear hfz20_4
     try clear hfz22_0
     try clear hfz22_1
     try clear hfz22_2
     try clear hfz22_3
     try clear hfz22_4
     try clear hfz24_0
     try clear hfz24_1
     try clear hfz24_2
     try clear hfz24_3
     try clear hfz24_4
     try clear hfz26_0
     try clear hfz26_1
     try clear hfz26_2
     try clear hfz26_3
     try clear hfz26_4
     try clear hfz9_0
     try clear hfz9_1
     try clear hfz9_2
     try clear hfz9_3
     try clear hfz9_4
     try clear p2
     obtain ⟨x32_2, rfl, HA, HK2, BK369, HB⟩ := hrel
     cases gk with
     | zero => exact absurd HA.out (by simp [write_element.l0])
     | succ k2 =>
      have H := HA.out
      clear HA
      simp only [write_element.l0] at H
      by_cases c27 : x32_2 < (l0_4.length : Int)
      ·rw [if_pos c27] at H
       have c27b0 : decide (x32_2 < (l0_4.length : Int)) = true := decide_eq_true c27
       clear c27
       by_cases c28 : 0 ≤ x32_2
       rotate_left
       ·rw [if_neg c28] at H
        exact absurd H (by simp)
       rw [if_pos c28] at H
       have c28b0 : decide (0 ≤ x32_2) = true := decide_eq_true c28
       clear c28
       by_cases c29 : x32_2 < (l0_4.length : Int)
       rotate_left
       ·rw [if_neg c29] at H
        exact absurd H (by simp)
       rw [if_pos c29] at H
       have c29b0 : decide (x32_2 < (l0_4.length : Int)) = true := decide_eq_true c29
       clear c29
       replace H := Option.bind_eq_some_iff.mp H
       obtain ⟨t376, A300, H⟩ := H
       have A30 := Aside0.mk A300
       clear A300
       by_cases c31 : t376 = true
       ·subst c31
        rw [if_pos rfl] at H
        replace H := Option.bind_eq_some_iff.mp H
        obtain ⟨t377, A320, H⟩ := H
        have A32 := Aside0.mk A320
        clear A320
        by_cases c33 : t377 = true
        ·subst c33
         rw [if_pos rfl] at H
         replace H := Option.bind_eq_some_iff.mp H
         obtain ⟨t378, A340, H⟩ := H
         have A34 := Aside0.mk A340
         clear A340
         by_cases c35 : t378 = true
         ·subst c35
          rw [if_pos rfl] at H
          have H' := Aside0.mk H
          clear H
          have p374 : 0 ≤ (x32_2 : Int) := of_decide_eq_true y2_
          have q374 : x32_2 < (l0_4.length : Int) := of_decide_eq_true y2_
          obtain ⟨ad374, e374, hx374_0, hx374_1⟩ := at_T41 HR0_4.out x32_2 p374 q374
          cases e374
          replace hx374_0 := (HB.out.cell (World.block_lt_of_cell? w _ hx374_0)).trans hx374_0
          replace hx374_1 := (HB.out.cell (World.block_lt_of_cell? w _ hx374_1)).trans hx374_1
          replace p374 := eq_true p374
          replace q374 := eq_true q374
          go_wp2_with (first | ((with_reducible refine gate_dst (N := 6) rfl ?_); refine box_event ?hg (N := 6) ?hd (cs := #[.string (⟨#[]⟩ : ByteArray), .string (⟨#[]⟩ : ByteArray)]) (t := 41) ?hr ?_; (case hd => rfl); (case hg => rfl); (case hr => first | (go_simp; done) | (go_simp; rfl)); intro gb375 hg w36 hbox hb; have n0_ := Aside0.mk (blk_below (g := gb369) (o := .cells #[.int .i64 a0_0, .int .i64 a0_1, .string a0_2, .string a0_3, .slice (some ad374) l0_4.length c0_4] 35 (0, 0)) (y10_ BK369.out) hb); have n1_ := Aside0.mk (below_step (y17_ GE369.out) hb); have n2_ := Aside0.mk (hbox); have n3_ := Aside0.mk ((by rw [hg]; exact (below_size (y17_ GE369.out)) : w.heap.size ≤ gb375)); have n4_ := Aside0.mk ((by rw [hg]; exact (below_size (y17_ GE369.out)) : w.heap.size ≤ gb375)); have n5_ := Aside0.mk ((by rw [hg]; exact Nat.ne_of_lt (blk_lt (g := gb369) (o := .cells #[.int .i64 a0_0, .int .i64 a0_1, .string a0_2, .string a0_3, .slice (some ad374) l0_4.length c0_4] 35 (0, 0)) (y10_ BK369.out)) : gb369 ≠ gb375)); have n6_ := Aside0.mk ((by rw [hg]; exact Nat.ne_of_gt (blk_lt (g := gb369) (o := .cells #[.int .i64 a0_0, .int .i64 a0_1, .string a0_2, .string a0_3, .slice (some ad374) l0_4.length c0_4] 35 (0, 0)) (y10_ BK369.out)) : gb375 ≠ gb369)); clear BK369; clear HB; have BK369 := n0_; have HB := n1_; have BK375 := n2_; have GW375 := n3_; have GE375 := n4_; have NB369_375 := n5_; have NB375_369 := n6_; clear n0_ n1_ n2_ n3_ n4_ n5_ n6_; clear hb hbox hg; have hnb37 := NB375_369.out; have hnc37 := NB369_375.out; have hcz38_0 : w36.cell? ⟨gb375, 0, none⟩ = some (.string (⟨#[]⟩ : ByteArray)) := (blk_cell BK375.out 0).trans rfl; have hcz38_1 : w36.cell? ⟨gb375, 1, none⟩ = some (.string (⟨#[]⟩ : ByteArray)) := (blk_cell BK375.out 1).trans rfl; have hfz38_0 := blk_frozen BK375.out 0; have hfz38_1 := blk_frozen BK375.out 1) | ((with_reducible refine gate_callee (f := 56) rfl ?_); refine goesL_ (some 38) rfl rfl Tryd.func56 (by kernel_rfl) rfl #[.string ((rd_T41 l0_4 x32_2).f0)] rfl y14_ ?_; (with_reducible refine (names_Attr.calls k2 ((rd_T41 l0_4 x32_2).f0) true _ A30.out).mono ?_); rintro e w' ⟨rfl, ⟨nd, rfl⟩⟩; refine ⟨_, rfl, ?_⟩) | (go_at_call 30; (with_reducible refine (write_clean.calls ((rd_T41 l0_4 x32_2).f0) true _ A32.out).mono ?_); rintro e w39 ⟨rfl, hb⟩; have n0_ := Aside0.mk (blk_below (g := gb369) (o := .cells #[.int .i64 a0_0, .int .i64 a0_1, .string a0_2, .string a0_3, .slice (some ad374) l0_4.length c0_4] 35 (0, 0)) (y26_ NB369_375.out BK369.out) hb); have n1_ := Aside0.mk (blk_below (g := gb375) (o := .cells #[.string ((rd_T41 l0_4 x32_2).f0), .string ((rd_T41 l0_4 x32_2).f1)] 41 (0, 0)) (y27_ BK375.out) hb); have n2_ := Aside0.mk (below_step (y19_ GE369.out GE375.out) hb); clear BK369; clear BK375; clear HB; have BK369 := n0_; have BK375 := n1_; have HB := n2_; clear n0_ n1_ n2_; (try clear hb); (try clear hb2); (try clear hk); (try clear hi); have hcz40_0 : w39.cell? ⟨gb375, 0, none⟩ = some (.string ((rd_T41 l0_4 x32_2).f0)) := (blk_cell BK375.out 0).trans rfl; have hcz40_1 : w39.cell? ⟨gb375, 1, none⟩ = some (.string ((rd_T41 l0_4 x32_2).f1)) := (blk_cell BK375.out 1).trans rfl; have hfz40_0 := blk_frozen BK375.out 0; have hfz40_1 := blk_frozen BK375.out 1) | (go_at_call 30; (with_reducible refine (write_clean.calls ((rd_T41 l0_4 x32_2).f1) true _ A34.out).mono ?_); rintro e w41 ⟨rfl, hb⟩; have n0_ := Aside0.mk (blk_below (g := gb369) (o := .cells #[.int .i64 a0_0, .int .i64 a0_1, .string a0_2, .string a0_3, .slice (some ad374) l0_4.length c0_4] 35 (0, 0)) (y10_ BK369.out) hb); have n1_ := Aside0.mk (blk_below (g := gb375) (o := .cells #[.string ((rd_T41 l0_4 x32_2).f0), .string ((rd_T41 l0_4 x32_2).f1)] 41 (0, 0)) (y10_ BK375.out) hb); have n2_ := Aside0.mk (below_step (y19_ GE369.out GE375.out) hb); clear BK369; clear BK375; clear HB; have BK369 := n0_; have BK375 := n1_; have HB := n2_; clear n0_ n1_ n2_; (try clear hb); (try clear hb2); (try clear hk); (try clear hi)))
          go_roundg k2
          case measure => have := HJ2.out; have := HK2.out; omega
          case rel => exact ⟨(wrap64 (x32_2 + 1)), y4_, H', ⟨by have := HJ2.out; have := HK2.out; omega⟩, ⟨by (with_reducible repeat (first | refine blk_drewN ?_ _ | refine blk_drew ?_ | refine blk_alloc ?_ _)); exact BK369.out⟩, ⟨(y19_ GE369.out GE375.out)⟩⟩
         ·replace c35 := Bool.eq_false_iff.mpr c35
          subst c35
          rw [if_neg (show ¬ (false = true) by decide)] at H
          obtain rfl := Option.some.inj H
          have p374 : 0 ≤ (x32_2 : Int) := of_decide_eq_true y2_
          have q374 : x32_2 < (l0_4.length : Int) := of_decide_eq_true y2_
          obtain ⟨ad374, e374, hx374_0, hx374_1⟩ := at_T41 HR0_4.out x32_2 p374 q374
          cases e374
          replace hx374_0 := (HB.out.cell (World.block_lt_of_cell? w _ hx374_0)).trans hx374_0
          replace hx374_1 := (HB.out.cell (World.block_lt_of_cell? w _ hx374_1)).trans hx374_1
          replace p374 := eq_true p374
          replace q374 := eq_true q374
          go_wp2_with (first | ((with_reducible refine gate_dst (N := 6) rfl ?_); refine box_event ?hg (N := 6) ?hd (cs := #[.string (⟨#[]⟩ : ByteArray), .string (⟨#[]⟩ : ByteArray)]) (t := 41) ?hr ?_; (case hd => rfl); (case hg => rfl); (case hr => first | (go_simp; done) | (go_simp; rfl)); intro gb375 hg w42 hbox hb; have n0_ := Aside0.mk (blk_below (g := gb369) (o := .cells #[.int .i64 a0_0, .int .i64 a0_1, .string a0_2, .string a0_3, .slice (some ad374) l0_4.length c0_4] 35 (0, 0)) (y10_ BK369.out) hb); have n1_ := Aside0.mk (below_step (y17_ GE369.out) hb); have n2_ := Aside0.mk (hbox); have n3_ := Aside0.mk ((by rw [hg]; exact (below_size (y17_ GE369.out)) : w.heap.size ≤ gb375)); have n4_ := Aside0.mk ((by rw [hg]; exact (below_size (y17_ GE369.out)) : w.heap.size ≤ gb375)); have n5_ := Aside0.mk ((by rw [hg]; exact Nat.ne_of_lt (blk_lt (g := gb369) (o := .cells #[.int .i64 a0_0, .int .i64 a0_1, .string a0_2, .string a0_3, .slice (some ad374) l0_4.length c0_4] 35 (0, 0)) (y10_ BK369.out)) : gb369 ≠ gb375)); have n6_ := Aside0.mk ((by rw [hg]; exact Nat.ne_of_gt (blk_lt (g := gb369) (o := .cells #[.int .i64 a0_0, .int .i64 a0_1, .string a0_2, .string a0_3, .slice (some ad374) l0_4.length c0_4] 35 (0, 0)) (y10_ BK369.out)) : gb375 ≠ gb369)); clear BK369; clear HB; have BK369 := n0_; have HB := n1_; have BK375 := n2_; have GW375 := n3_; have GE375 := n4_; have NB369_375 := n5_; have NB375_369 := n6_; clear n0_ n1_ n2_ n3_ n4_ n5_ n6_; clear hb hbox hg; have hnb43 := NB375_369.out; have hnc43 := NB369_375.out; have hcz44_0 : w42.cell? ⟨gb375, 0, none⟩ = some (.string (⟨#[]⟩ : ByteArray)) := (blk_cell BK375.out 0).trans rfl; have hcz44_1 : w42.cell? ⟨gb375, 1, none⟩ = some (.string (⟨#[]⟩ : ByteArray)) := (blk_cell BK375.out 1).trans rfl; have hfz44_0 := blk_frozen BK375.out 0; have hfz44_1 := blk_frozen BK375.out 1) | ((with_reducible refine gate_callee (f := 56) rfl ?_); refine goesL_ (some 38) rfl rfl Tryd.func56 (by kernel_rfl) rfl #[.string ((rd_T41 l0_4 x32_2).f0)] rfl y14_ ?_; (with_reducible refine (names_Attr.calls k2 ((rd_T41 l0_4 x32_2).f0) true _ A30.out).mono ?_); rintro e w' ⟨rfl, ⟨nd, rfl⟩⟩; refine ⟨_, rfl, ?_⟩) | (go_at_call 30; (with_reducible refine (write_clean.calls ((rd_T41 l0_4 x32_2).f0) true _ A32.out).mono ?_); rintro e w45 ⟨rfl, hb⟩; have n0_ := Aside0.mk (blk_below (g := gb369) (o := .cells #[.int .i64 a0_0, .int .i64 a0_1, .string a0_2, .string a0_3, .slice (some ad374) l0_4.length c0_4] 35 (0, 0)) (y26_ NB369_375.out BK369.out) hb); have n1_ := Aside0.mk (blk_below (g := gb375) (o := .cells #[.string ((rd_T41 l0_4 x32_2).f0), .string ((rd_T41 l0_4 x32_2).f1)] 41 (0, 0)) (y27_ BK375.out) hb); have n2_ := Aside0.mk (below_step (y19_ GE369.out GE375.out) hb); clear BK369; clear BK375; clear HB; have BK369 := n0_; have BK375 := n1_; have HB := n2_; clear n0_ n1_ n2_; (try clear hb); (try clear hb2); (try clear hk); (try clear hi); have hcz46_0 : w45.cell? ⟨gb375, 0, none⟩ = some (.string ((rd_T41 l0_4 x32_2).f0)) := (blk_cell BK375.out 0).trans rfl; have hcz46_1 : w45.cell? ⟨gb375, 1, none⟩ = some (.string ((rd_T41 l0_4 x32_2).f1)) := (blk_cell BK375.out 1).trans rfl; have hfz46_0 := blk_frozen BK375.out 0; have hfz46_1 := blk_frozen BK375.out 1) | (go_at_call 30; (with_reducible refine (write_clean.calls ((rd_T41 l0_4 x32_2).f1) false _ A34.out).mono ?_); rintro e w47 ⟨rfl, hb⟩; have n0_ := Aside0.mk (blk_below (g := gb369) (o := .cells #[.int .i64 a0_0, .int .i64 a0_1, .string a0_2, .string a0_3, .slice (some ad374) l0_4.length c0_4] 35 (0, 0)) (y10_ BK369.out) hb); have n1_ := Aside0.mk (blk_below (g := gb375) (o := .cells #[.string ((rd_T41 l0_4 x32_2).f0), .string ((rd_T41 l0_4 x32_2).f1)] 41 (0, 0)) (y10_ BK375.out) hb); have n2_ := Aside0.mk (below_step (y19_ GE369.out GE375.out) hb); clear BK369; clear BK375; clear HB; have BK369 := n0_; have BK375 := n1_; have HB := n2_; clear n0_ n1_ n2_; (try clear hb); (try clear hb2); (try clear hk); (try clear hi)))
          go_ret
          exact ⟨y11_, (y19_ GE369.out GE375.out)⟩
        ·replace c33 := Bool.eq_false_iff.mpr c33
         subst c33
         rw [if_neg (show ¬ (false = true) by decide)] at H
         obtain rfl := Option.some.inj H
         have p374 : 0 ≤ (x32_2 : Int) := of_decide_eq_true y2_
         have q374 : x32_2 < (l0_4.length : Int) := of_decide_eq_true y2_
         obtain ⟨ad374, e374, hx374_0, hx374_1⟩ := at_T41 HR0_4.out x32_2 p374 q374
         cases e374
         replace hx374_0 := (HB.out.cell (World.block_lt_of_cell? w _ hx374_0)).trans hx374_0
         replace hx374_1 := (HB.out.cell (World.block_lt_of_cell? w _ hx374_1)).trans hx374_1
         replace p374 := eq_true p374
         replace q374 := eq_true q374
         go_wp2_with (first | ((with_reducible refine gate_dst (N := 6) rfl ?_); refine box_event ?hg (N := 6) ?hd (cs := #[.string (⟨#[]⟩ : ByteArray), .string (⟨#[]⟩ : ByteArray)]) (t := 41) ?hr ?_; (case hd => rfl); (case hg => rfl); (case hr => first | (go_simp; done) | (go_simp; rfl)); intro gb375 hg w48 hbox hb; have n0_ := Aside0.mk (blk_below (g := gb369) (o := .cells #[.int .i64 a0_0, .int .i64 a0_1, .string a0_2, .string a0_3, .slice (some ad374) l0_4.length c0_4] 35 (0, 0)) (y10_ BK369.out) hb); have n1_ := Aside0.mk (below_step (y17_ GE369.out) hb); have n2_ := Aside0.mk (hbox); have n3_ := Aside0.mk ((by rw [hg]; exact (below_size (y17_ GE369.out)) : w.heap.size ≤ gb375)); have n4_ := Aside0.mk ((by rw [hg]; exact (below_size (y17_ GE369.out)) : w.heap.size ≤ gb375)); have n5_ := Aside0.mk ((by rw [hg]; exact Nat.ne_of_lt (blk_lt (g := gb369) (o := .cells #[.int .i64 a0_0, .int .i64 a0_1, .string a0_2, .string a0_3, .slice (some ad374) l0_4.length c0_4] 35 (0, 0)) (y10_ BK369.out)) : gb369 ≠ gb375)); have n6_ := Aside0.mk ((by rw [hg]; exact Nat.ne_of_gt (blk_lt (g := gb369) (o := .cells #[.int .i64 a0_0, .int .i64 a0_1, .string a0_2, .string a0_3, .slice (some ad374) l0_4.length c0_4] 35 (0, 0)) (y10_ BK369.out)) : gb375 ≠ gb369)); clear BK369; clear HB; have BK369 := n0_; have HB := n1_; have BK375 := n2_; have GW375 := n3_; have GE375 := n4_; have NB369_375 := n5_; have NB375_369 := n6_; clear n0_ n1_ n2_ n3_ n4_ n5_ n6_; clear hb hbox hg; have hnb49 := NB375_369.out; have hnc49 := NB369_375.out; have hcz50_0 : w48.cell? ⟨gb375, 0, none⟩ = some (.string (⟨#[]⟩ : ByteArray)) := (blk_cell BK375.out 0).trans rfl; have hcz50_1 : w48.cell? ⟨gb375, 1, none⟩ = some (.string (⟨#[]⟩ : ByteArray)) := (blk_cell BK375.out 1).trans rfl; have hfz50_0 := blk_frozen BK375.out 0; have hfz50_1 := blk_frozen BK375.out 1) | ((with_reducible refine gate_callee (f := 56) rfl ?_); refine goesL_ (some 38) rfl rfl Tryd.func56 (by kernel_rfl) rfl #[.string ((rd_T41 l0_4 x32_2).f0)] rfl y14_ ?_; (with_reducible refine (names_Attr.calls k2 ((rd_T41 l0_4 x32_2).f0) true _ A30.out).mono ?_); rintro e w' ⟨rfl, ⟨nd, rfl⟩⟩; refine ⟨_, rfl, ?_⟩) | (go_at_call 30; (with_reducible refine (write_clean.calls ((rd_T41 l0_4 x32_2).f0) false _ A32.out).mono ?_); rintro e w51 ⟨rfl, hb⟩; have n0_ := Aside0.mk (blk_below (g := gb369) (o := .cells #[.int .i64 a0_0, .int .i64 a0_1, .string a0_2, .string a0_3, .slice (some ad374) l0_4.length c0_4] 35 (0, 0)) (y26_ NB369_375.out BK369.out) hb); have n1_ := Aside0.mk (blk_below (g := gb375) (o := .cells #[.string ((rd_T41 l0_4 x32_2).f0), .string ((rd_T41 l0_4 x32_2).f1)] 41 (0, 0)) (y27_ BK375.out) hb); have n2_ := Aside0.mk (below_step (y19_ GE369.out GE375.out) hb); clear BK369; clear BK375; clear HB; have BK369 := n0_; have BK375 := n1_; have HB := n2_; clear n0_ n1_ n2_; (try clear hb); (try clear hb2); (try clear hk); (try clear hi)))
         go_ret
         exact ⟨y11_, (y19_ GE369.out GE375.out)⟩
       ·replace c31 := Bool.eq_false_iff.mpr c31
        subst c31
        rw [if_neg (show ¬ (false = true) by decide)] at H
        obtain rfl := Option.some.inj H
        have p374 : 0 ≤ (x32_2 : Int) := of_decide_eq_true y2_
        have q374 : x32_2 < (l0_4.length : Int) := of_decide_eq_true y2_
        obtain ⟨ad374, e374, hx374_0, hx374_1⟩ := at_T41 HR0_4.out x32_2 p374 q374
        cases e374
        replace hx374_0 := (HB.out.cell (World.block_lt_of_cell? w _ hx374_0)).trans hx374_0
        replace hx374_1 := (HB.out.cell (World.block_lt_of_cell? w _ hx374_1)).trans hx374_1
        replace p374 := eq_true p374
        replace q374 := eq_true q374
        go_wp2_with (first | ((with_reducible refine gate_dst (N := 6) rfl ?_); refine box_event ?hg (N := 6) ?hd (cs := #[.string (⟨#[]⟩ : ByteArray), .string (⟨#[]⟩ : ByteArray)]) (t := 41) ?hr ?_; (case hd => rfl); (case hg => rfl); (case hr => first | (go_simp; done) | (go_simp; rfl)); intro gb375 hg w52 hbox hb; have n0_ := Aside0.mk (blk_below (g := gb369) (o := .cells #[.int .i64 a0_0, .int .i64 a0_1, .string a0_2, .string a0_3, .slice (some ad374) l0_4.length c0_4] 35 (0, 0)) (y10_ BK369.out) hb); have n1_ := Aside0.mk (below_step (y17_ GE369.out) hb); have n2_ := Aside0.mk (hbox); have n3_ := Aside0.mk ((by rw [hg]; exact (below_size (y17_ GE369.out)) : w.heap.size ≤ gb375)); have n4_ := Aside0.mk ((by rw [hg]; exact (below_size (y17_ GE369.out)) : w.heap.size ≤ gb375)); have n5_ := Aside0.mk ((by rw [hg]; exact Nat.ne_of_lt (blk_lt (g := gb369) (o := .cells #[.int .i64 a0_0, .int .i64 a0_1, .string a0_2, .string a0_3, .slice (some ad374) l0_4.length c0_4] 35 (0, 0)) (y10_ BK369.out)) : gb369 ≠ gb375)); have n6_ := Aside0.mk ((by rw [hg]; exact Nat.ne_of_gt (blk_lt (g := gb369) (o := .cells #[.int .i64 a0_0, .int .i64 a0_1, .string a0_2, .string a0_3, .slice (some ad374) l0_4.length c0_4] 35 (0, 0)) (y10_ BK369.out)) : gb375 ≠ gb369)); clear BK369; clear HB; have BK369 := n0_; have HB := n1_; have BK375 := n2_; have GW375 := n3_; have GE375 := n4_; have NB369_375 := n5_; have NB375_369 := n6_; clear n0_ n1_ n2_ n3_ n4_ n5_ n6_; clear hb hbox hg; have hnb53 := NB375_369.out; have hnc53 := NB369_375.out; have hcz54_0 : w52.cell? ⟨gb375, 0, none⟩ = some (.string (⟨#[]⟩ : ByteArray)) := (blk_cell BK375.out 0).trans rfl; have hcz54_1 : w52.cell? ⟨gb375, 1, none⟩ = some (.string (⟨#[]⟩ : ByteArray)) := (blk_cell BK375.out 1).trans rfl; have hfz54_0 := blk_frozen BK375.out 0; have hfz54_1 := blk_frozen BK375.out 1) | ((with_reducible refine gate_callee (f := 56) rfl ?_); refine goesL_ (some 38) rfl rfl Tryd.func56 (by kernel_rfl) rfl #[.string ((rd_T41 l0_4 x32_2).f0)] rfl y14_ ?_; (with_reducible refine (names_Attr.calls k2 ((rd_T41 l0_4 x32_2).f0) false _ A30.out).mono ?_); rintro e w' ⟨rfl, ⟨nd, rfl⟩⟩; refine ⟨_, rfl, ?_⟩))
        go_ret
        exact ⟨y11_, (y19_ GE369.out GE375.out)⟩
      ·rw [if_neg c27] at H
       have c27b0 : decide (x32_2 < (l0_4.length : Int)) = false := decide_eq_false c27
       clear c27
       obtain rfl := Option.some.inj H
       go_wp2
       go_ret
       exact ⟨y11_, (y17_ GE369.out)⟩
end Go.Proofs.YtpnhjipaeggcpaaDoor.X
end
