/- NotationNests holds for every input: the notation of a tight nest is made of its kids'; under the row's own conditions (the listed package variables as the program lays them). Part 4 of 6: the contracts of the functions that it reaches, and plain lemmas. -/
import Derived.Test.YtafkenbfgmlkkaaGreatDoorTC
import Derived.Lib.Builder
import Derived.Lib.FrozenHead
import Derived.Shelf.Strings.BuilderX
import Derived.Lib.AppendStr
set_option linter.unusedVariables false
set_option linter.unusedSimpArgs false
namespace Go.Proofs.T
open Go.RowKit
def decsT (l : List Dec) : List UInt8 := if (l.any fun d => !rightD d.man d.exp) = true then [] else joinT (l.map decT)
theorem strV_nil : strV [] = .string ⟨#[]⟩ := rfl
set_option maxHeartbeats 4000000 in
theorem decs_any (A : Option Addr) (c : Nat) (xs : List Dec) (ok : Nat → Prop) (w : World) (h : Rd lDec w ok A xs.length xs) (hx : DecsOk xs) (hG : Glob w) (hlen : xs.length ≤ 1000000000) :
    Calls Tryz.prog 18 #[.slice A xs.length c] w fun e w' => e = .returned (strV (decsT xs)) ∧ Below w.heap.size w w' := by
  have HR := Lib.hid h; have HX := Lib.hid hx; have HG := Lib.hid hG
  clear h hx hG
  go_enter Tryz.func18, Tryz.ntmps18
  go_wp2
  go_loopg [3, 5, 8] xs.length (fun gg s3 _ i wr => ∃ (k : Nat) (v : Value) (ss : List (List UInt8)), v = s3 ∧ k ≤ xs.length ∧ gg = xs.length - k ∧ i = .int .i64 k ∧ wr.ownsRow w.heap.size 9 1 v k (ss.map strV) ∧ Hid (ss = (xs.take k).map decT ∧ ((xs.take k).any fun d => !rightD d.man d.exp) = false) ∧ Below w.heap.size w wr)
  case atStart => exact ⟨0, _, [], rfl, by omega, by omega, rfl, World.ownsRow_nil _ _ _ _, ⟨rfl, rfl⟩, Below.refl _ _⟩
  case round =>
    obtain ⟨k, v, ss, rfl, hk, rfl, rfl, hown, HS, hb⟩ := hrel
    obtain ⟨A0, c0, rfl⟩ := own_form hown
    by_cases hlt : k < xs.length
    · obtain ⟨b, o, hA, _⟩ := HR.out.row (by omega)
      subst hA
      obtain ⟨e0, e1⟩ := (HR.out.below (by decide) hb).atD k hlt
      have hxk := HX.out xs[k] (List.getElem_mem hlt)
      have hno : Hid (rightD xs[k].man xs[k].exp = false → decsT xs = []) := fun h => by
        unfold decsT
        rw [if_pos (List.any_eq_true.2 ⟨xs[k], List.getElem_mem hlt, by rw [h]; rfl⟩)]
      have hst : Hid (rightD xs[k].man xs[k].exp = true → ss ++ [decT xs[k]] = (xs.take (k + 1)).map decT ∧ ((xs.take (k + 1)).any fun d => !rightD d.man d.exp) = false) := fun h => by
        rw [HS.out.1, List.take_succ_eq_append_getElem hlt, List.map_append, List.any_append, HS.out.2]
        exact ⟨rfl, by simp [h]⟩
      generalize xs[k] = x at e0 e1 hxk hst hno
      have hright := fun W => right_any x.man x.exp hxk.1 hxk.2 W
      have htext := fun W (hW : Below w.heap.size w W) => dtext_any x hxk W (HG.out.below hW)
      cases hR : rightD x.man x.exp with
      | false =>
        simp only [hR] at hright
        have HRI := Lib.hid hright
        have hfin := Lib.hid (hno.out hR)
        clear hright htext hno hst hR hxk
        go_wp2_with (go_at_call 17; refine (HRI.out _).mono ?_; rintro e w1 ⟨rfl, hb1⟩)
        go_ret
        exact ⟨by rw [hfin.out]; rfl, bl_trans hb1 (bl_alloc hb _)⟩
      | true =>
        simp only [hR] at hright
        have HRI := Lib.hid hright
        have hfin := Lib.hid (hst.out hR)
        generalize decT x = t at htext hfin
        unfold decW strV at htext
        have HT := Lib.hid htext
        clear hright htext hno hst hR hxk
        go_wp2_with (first
          | (go_at_call 17; refine (HRI.out _).mono ?_; rintro e w1 ⟨rfl, hb1⟩; obtain ⟨hc1, hf1⟩ := bcell hb1; have z1 := hb1.size; simp at z1; have hb1' := bl_trans hb1 (bl_alloc hb _))
          | (go_at_call 43; refine (HT.out _ hb1').mono ?_; rintro e w2 ⟨rfl, hb2⟩)
          | (at_builtin; refine app_one (w0 := w) w.heap.size rfl (.tmp 15) (.tmp 18) 52 9 (.string ⟨#[]⟩) 1 16 rfl Tryz.underlying52 info9 rfl (by decide) _ k (ss.map strV) [strV t] rfl rfl rfl (fun u hu => by rw [List.mem_singleton.1 hu]; rfl) (own_below (own_below (own_below hown (bl_alloc (Below.refl _ _) _)) hb1) hb2) (bl_trans hb2 hb1') (bl_trans hb2 hb1').size (by simp only [maxLen]; omega) (by omega) ?_; intro v1 w3 hown3 hb3 hg3 _))
        go_roundg (xs.length - (k + 1))
        case measure => omega
        case rel => exact ⟨k + 1, v1, ss ++ [t], rfl, by omega, rfl, by go_num, by rw [List.map_append]; exact hown3, hfin.out, hb3⟩
    · have hkn : k = xs.length := by omega
      subst hkn
      rw [List.take_length] at HS
      have hl : ss.length = xs.length := by rw [HS.out.1, List.length_map]
      have hj := strings_cells hown hl (Nat.le_trans (join_le 50 ss fun l hl => by
        rw [HS.out.1] at hl
        obtain ⟨n, hn, rfl⟩ := List.mem_map.1 hl
        exact decT_len n (HX.out n hn)) (by omega)) hlen
      have HJ := Lib.hid hj
      clear hj hl
      have hfin : Hid (decsT xs = joinT ss) := by
        show _ = _
        unfold decsT; rw [if_neg (by rw [HS.out.2]; simp), HS.out.1]
      generalize joinT ss = r at HJ hfin
      unfold strV at HJ
      go_wp2_with (go_at_call 26; refine HJ.out.mono ?_; rintro e w1 ⟨rfl, hb1⟩)
      go_ret
      exact ⟨by rw [hfin.out]; rfl, bl_trans hb1 hb⟩
end Go.Proofs.T
namespace Go.Proofs.T
open Go.RowKit
/-- A Builder that holds these bytes, and that String() has not read. -/
def Bld (B b : Nat) (l : List UInt8) (w : World) : Prop := Lib.IsBuilder 58 5 B b (Lib.byteCells l) w
theorem Bld.new (w : World) : Bld w.heap.size w.heap.size [] (w.alloc (.cells #[.pointer none, .slice none 0 0] 58)) :=
  .inl ⟨Nat.le_refl _, _, heap_alloc_new w _, World.ownsRow_nil _ _ _ _, by simp [Value.ownBlock]⟩
theorem Bld.below {B b : Nat} {l : List UInt8} {w w' : World} (h : Bld B b l w) (hb : Below w.heap.size w w') : Bld B b l w' := by
  have one : ∀ p, Lib.BuilderAt 58 5 B b p (Lib.byteCells l) w → Lib.BuilderAt 58 5 B b p (Lib.byteCells l) w' := fun p ⟨h1, v, h2, h3, h4⟩ =>
    ⟨h1, v, (hb.block b (Array.getElem?_eq_some_iff.1 h2).1).trans h2, own_below h3 hb, h4⟩
  exact h.elim (fun h => .inl (one _ h)) (fun h => .inr (one _ h))
theorem szB : (Tryz.prog.info? 58).map (·.size) = some 2 := by kernel_rfl
theorem liesB : liesAt Tryz.prog Tryz.prog.depth 58 (2 / Tryz.prog.cellsOf 58) 0 58 1 = true := by kernel_rfl
set_option maxHeartbeats 1000000 in
set_option maxRecDepth 100000 in
theorem cc_used (b : Nat) (w : World) (h0 : w.cell? ⟨b, 0, none⟩ = some (.pointer (some ⟨b, 0, none⟩))) :
    Calls Tryz.prog 55 #[.pointer (some ⟨b, 0, none⟩)] w fun e w' => e = .returned (.tuple #[]) ∧ w' = w := by
  obtain ⟨j, hj, _⟩ := Option.map_eq_some_iff.1 szB
  go_enter Tryz.func55, Tryz.ntmps55
  go_wp2
  rw [Lib.run_neq_ptr_same w _ Tryz.underlying55 hj]
  go_wp2
  go_end0
  exact ⟨rfl, rfl⟩
set_option maxHeartbeats 1000000 in
set_option maxRecDepth 100000 in
theorem cc_fresh (b : Nat) (w : World) (h0 : w.cell? ⟨b, 0, none⟩ = some (.pointer none)) (hsh : w.shape? b = some (58, 2)) (hfz : w.frozen? ⟨b, 0, none⟩ = false) :
    Calls Tryz.prog 55 #[.pointer (some ⟨b, 0, none⟩)] w fun e w' => e = .returned (.tuple #[]) ∧ w' = w.setCell ⟨b, 0, none⟩ (.pointer (some ⟨b, 0, none⟩)) := by
  obtain ⟨j, hj, hjs⟩ := Option.map_eq_some_iff.1 szB
  go_enter Tryz.func55, Tryz.ntmps55
  go_wp2
  rw [Lib.run_to_unsafe w ⟨b, 0, none⟩ Tryz.underlying55 Tryz.underlying106 hj (by rw [hjs]; decide) hsh (Nat.zero_lt_succ 1)]
  simp only [Result.andThen]
  rw [Oper.upon_value]
  go_wp2
  rw [run_callFunc_extern Tryz.func76 (by kernel_rfl) (by kernel_rfl) (by kernel_rfl) (e := Extern.AbiNoEscape.same) (by kernel_rfl)]
  rw [Lib.run_noEscape]
  simp only [Result.andThen]
  rw [Oper.upon_value]
  go_wp2
  rw [Lib.run_from_unsafe w ⟨b, 0, none⟩ Tryz.underlying106 Tryz.underlying55 hj hsh liesB]
  simp only [Result.andThen]
  rw [Oper.upon_value]
  go_wp2
  go_end0
  exact ⟨rfl, rfl⟩
/-- What is no row of bytes, and not the Builder, stays. -/
def Kept (b : Nat) (w w' : World) : Prop := ∀ k cs t, t ≠ 5 → k ≠ b → Box w k cs t → Box w' k cs t
theorem Kept.trans {b : Nat} {w w1 w2 : World} (h : Kept b w w1) (k : Kept b w1 w2) : Kept b w w2 := fun i cs t ht hi hb => k i cs t ht hi (h i cs t ht hi hb)
theorem cc_any (B b : Nat) (bs : List Value) (w : World) (h : Lib.IsBuilder 58 5 B b bs w) :
    Calls Tryz.prog 55 #[.pointer (some ⟨b, 0, none⟩)] w fun e w' => e = .returned (.tuple #[]) ∧ (Lib.BuilderAt 58 5 B b (.pointer (some ⟨b, 0, none⟩)) bs w' ∧ Below B w w' ∧ Kept b w w') := by
  rcases h with h | h
  · refine (cc_fresh b w h.cell0 h.shape h.frozen0).mono ?_
    rintro e w' ⟨rfl, rfl⟩
    exact ⟨rfl, h.used _, (Below.refl B w).setCell (p := ⟨b, 0, none⟩) h.1 _, fun k cs t _ hk hb => hb.other _ _ hk⟩
  · refine (cc_used b w h.cell0).mono ?_
    rintro e w' ⟨rfl, rfl⟩
    exact ⟨rfl, h, Below.refl B _, fun _ _ _ _ _ hb => hb⟩
end Go.Proofs.T
namespace Go.Proofs.T
open Go.RowKit
theorem own_kind {w : World} {base n size : Nat} {e : TypeId} {v : Value} {xs : List Value} (h : w.ownsRow base e size v n xs) {g : Nat} (hg : v.ownBlock = some g) {cs : Array Value} {t : TypeId} (hb : Box w g cs t) : t = e := by
  rcases h.2 with ⟨rfl, h0⟩ | ⟨g', cap, cur, rfl, _, h2, _⟩
  · simp [Value.ownBlock] at hg
  · have : g' = g := by simpa [Value.ownBlock] using hg
    subst this
    unfold Box at hb
    rw [h2] at hb
    injection hb with hb
    injection hb with _ hb
    exact hb.symm
theorem kept_grown {w w1 w2 : World} {b base n size : Nat} {e : TypeId} {v v' : Value} {xs : List Value} (hk : Kept b w w1) (ho : w1.ownsRow base 5 size v n xs) (hg : w1.grownBy w2 v.ownBlock) : Kept b w (w2.setCell ⟨b, 1, none⟩ v') := fun k cs t ht hkb hbx => by
  have h1 := hk k cs t ht hkb hbx
  exact (h1.grown hg (fun e => ht (own_kind ho e h1))).other _ _ hkb
theorem info5 : (Tryz.prog.info? 5).map (fun i => (i.zero, i.size, i.bytes)) = some (some (.int .u8 0), 1, 1) := by kernel_rfl
set_option maxHeartbeats 2000000 in
set_option maxRecDepth 100000 in
theorem bw_cells (B b : Nat) (bs : List Value) (s : ByteArray) (w : World) (h : Lib.IsBuilder 58 5 B b bs w) (hlen : bs.length + s.size ≤ 140737488355328) (hBw : B ≤ w.heap.size) :
    Calls Tryz.prog 29 #[.pointer (some ⟨b, 0, none⟩), .string s] w fun e w' => e = .returned (.tuple #[.int .i64 s.size, .nilIface]) ∧ (Lib.BuilderAt 58 5 B b (.pointer (some ⟨b, 0, none⟩)) (bs ++ Lib.strCells s) w' ∧ Below B w w' ∧ Kept b w w') := by
  obtain ⟨i0, hi, hz0, hz1, hz2⟩ := info_parts info5
  have HC := Lib.hid (cc_any B b bs w h)
  clear h
  go_enter Tryz.func29, Tryz.ntmps29
  go_wp2_with (go_at_call 55; refine HC.out.mono ?_)
  rintro e w1 ⟨rfl, h1, hb1, hkk1⟩
  obtain ⟨hB, v, hbk, hown, hne⟩ := h1
  have c0 : w1.cell? ⟨b, 0, none⟩ = some (.pointer (some ⟨b, 0, none⟩)) := by rw [Lib.cell_of_heap hbk]; rfl
  have c1 : w1.cell? ⟨b, 1, none⟩ = some v := by rw [Lib.cell_of_heap hbk]; rfl
  go_wp2_with (at_builtin; refine Lib.wpList_append_own_string _ rfl _ _ 56 9 rfl B 5 i0 Tryz.underlying56 Tryz.underlying9 hi hz0 hz1 hz2 _ _ _ rfl hown s rfl ?c3 ?c4 ?c5 ?_)
  case c3 => unfold maxLen; omega
  case c4 => omega
  case c5 => have := hb1.size; omega
  intro v' w2 hown' hgrow _
  have hlt : b < w1.heap.size := by
    rcases Nat.lt_or_ge b w1.heap.size with h' | h'
    · exact h'
    · simp [Array.getElem?_eq_none h'] at hbk
  have hb2 : w2.heap[b]? = some (.cells #[.pointer (some ⟨b, 0, none⟩), v] 58 (0, 0)) := by
    rw [hgrow.block b hlt (fun e => hne e.symm)]
    exact hbk
  have d0 : w2.cell? ⟨b, 0, none⟩ = some (.pointer (some ⟨b, 0, none⟩)) := by rw [Lib.cell_of_heap hb2]; rfl
  have d1 : w2.cell? ⟨b, 1, none⟩ = some v := by rw [Lib.cell_of_heap hb2]; rfl
  have f1 : w2.frozen? ⟨b, 1, none⟩ = false := Lib.frozen_of_heap hb2 1
  obtain ⟨ao, n', cap, rfl⟩ : ∃ ao n' cap, v' = .slice ao n' cap := by
    rcases hown'.2 with ⟨hv, _⟩ | ⟨g, cap, cur, hv, _⟩
    · exact ⟨_, _, _, hv⟩
    · exact ⟨_, _, _, hv⟩
  go_wp2
  go_ret2
  refine ⟨rfl, ?_, ?_, kept_grown (e := 5) hkk1 hown hgrow⟩
  · exact Lib.BuilderAt.put (T := 58) (e := 5) hB hb2 (bs' := bs ++ Lib.strCells s) (by simpa [Lib.strCells_length] using hown') (by decide)
  · exact (hb1.grown hgrow (by have := hb1.size; omega) (fun k hk => (hown.lt k hk).1)).setCell (p := ⟨b, 1, none⟩) hB _
theorem bw_str (B b : Nat) (l s : List UInt8) (w : World) (h : Bld B b l w) (hl : l.length + s.length ≤ 140737488355328) (hB : B ≤ w.heap.size) :
    Calls Tryz.prog 29 #[.pointer (some ⟨b, 0, none⟩), strV s] w fun e w' => e = .returned (.tuple #[.int .i64 s.length, .nilIface]) ∧ Bld B b (l ++ s) w' ∧ Below B w w' ∧ Kept b w w' := by
  refine (bw_cells B b (Lib.byteCells l) ⟨s.toArray⟩ w h (by rw [Lib.byteCells_length]; simpa [ByteArray.size] using hl) hB).mono ?_
  rintro e w' ⟨rfl, h1, h2, h3⟩
  exact ⟨by simp [ByteArray.size], .inr (by rw [Lib.byteCells_append]; exact h1), h2, h3⟩
theorem b_str (B b : Nat) (l : List UInt8) (w : World) (h : Bld B b l w) (hB : B ≤ w.heap.size) :
    Calls Tryz.prog 28 #[.pointer (some ⟨b, 0, none⟩)] w fun e w' => e = .returned (strV l) ∧ Below B w w' :=
  Tryz.Builder_String_any B b l w h hB
set_option maxHeartbeats 2000000 in
set_option maxRecDepth 100000 in
theorem bw_runeC (B b : Nat) (bs : List Value) (r : Int) (hr0 : -2147483648 ≤ r) (hr1 : r ≤ 2147483647) (w : World) (h : Lib.IsBuilder 58 5 B b bs w) (hlen : bs.length + 4 ≤ 140737488355328) (hBw : B ≤ w.heap.size) :
    Calls Tryz.prog 31 #[.pointer (some ⟨b, 0, none⟩), .int .i32 r] w fun e w' => (∃ v, e = .returned v) ∧ (Lib.BuilderAt 58 5 B b (.pointer (some ⟨b, 0, none⟩)) (bs ++ Lib.runeCells r) w' ∧ Below B w w') := by
  have HC := Lib.hid (cc_any B b bs w h)
  clear h
  go_enter Tryz.func31, Tryz.ntmps31
  go_wp2_with (go_at_call 55; refine HC.out.mono ?_)
  rintro e w1 ⟨rfl, h1, hb1, hkk1⟩
  obtain ⟨hB, v, hbk, hown, hne⟩ := h1
  obtain ⟨A0, c00, rfl⟩ := own_form hown
  have c0 : w1.cell? ⟨b, 0, none⟩ = some (.pointer (some ⟨b, 0, none⟩)) := by rw [Lib.cell_of_heap hbk]; rfl
  have c1 : w1.cell? ⟨b, 1, none⟩ = some (.slice A0 bs.length c00) := by rw [Lib.cell_of_heap hbk]; rfl
  have HA := Lib.hid (fun W (hW : Below w1.heap.size w1 W) => Tryz.utf8_AppendRune_plain B (.slice A0 bs.length c00) bs.length bs r hr0 hr1 W (own_below hown hW) (by omega) (Nat.le_trans hBw (Nat.le_trans hb1.size hW.size)))
  go_wp2_with (go_at_call 56; refine (HA.out _ (Below.refl _ _)).mono ?_)
  rintro e w2 ⟨v', rfl, hown', o, hgrow⟩
  have hlt : b < w1.heap.size := (Array.getElem?_eq_some_iff.1 hbk).1
  have hb2 : w2.heap[b]? = some (.cells #[.pointer (some ⟨b, 0, none⟩), .slice A0 bs.length c00] 58 (0, 0)) := by
    rw [hgrow.block b (by simp; omega) (fun e => hne e.symm)]
    exact ((bl_alloc (Below.refl w1.heap.size w1) o).block b hlt).trans hbk
  have d0 : w2.cell? ⟨b, 0, none⟩ = some (.pointer (some ⟨b, 0, none⟩)) := by rw [Lib.cell_of_heap hb2]; rfl
  have d1 : w2.cell? ⟨b, 1, none⟩ = some (.slice A0 bs.length c00) := by rw [Lib.cell_of_heap hb2]; rfl
  have f1 : w2.frozen? ⟨b, 1, none⟩ = false := Lib.frozen_of_heap hb2 1
  have hfin : ∀ A2 c2, v' = .slice A2 (bs.length + (Lib.runeCells r).length) c2 → Lib.BuilderAt 58 5 B b (.pointer (some ⟨b, 0, none⟩)) (bs ++ Lib.runeCells r) (w2.setCell ⟨b, 1, none⟩ v') ∧ Below B w (w2.setCell ⟨b, 1, none⟩ v') := fun A2 c2 _ =>
    ⟨Lib.BuilderAt.put (T := 58) (e := 5) hB hb2 (bs' := bs ++ Lib.runeCells r) (by simpa using hown') (by decide), ((hb1.alloc (by have := hb1.size; omega) o).grown hgrow (by have := hb1.size; simp; omega) (fun k hk => (hown.lt k hk).1)).setCell (p := ⟨b, 1, none⟩) hB _⟩
  obtain ⟨A2, c2, rfl⟩ := own_form hown'
  have HF := Lib.hid (hfin _ _ rfl)
  clear hfin hown'
  generalize (Lib.runeCells r).length = q at HF ⊢
  go_wp2
  go_ret2
  exact ⟨⟨_, rfl⟩, HF.out⟩
theorem bw_rune (B b : Nat) (l : List UInt8) (r : Int) (hr : -2147483648 ≤ r ∧ r ≤ 2147483647) (w : World) (h : Bld B b l w) (hl : l.length + 4 ≤ 140737488355328) (hB : B ≤ w.heap.size) :
    Calls Tryz.prog 31 #[.pointer (some ⟨b, 0, none⟩), .int .i32 r] w fun e w' => (∃ v, e = .returned v) ∧ Bld B b (l ++ Lib.encodeRune r) w' ∧ Below B w w' := by
  refine (bw_runeC B b (Lib.byteCells l) r hr.1 hr.2 w h (by rw [Lib.byteCells_length]; exact hl) hB).mono ?_
  rintro e w' ⟨h0, h1, h2⟩
  exact ⟨h0, .inr (by rw [Lib.byteCells_append, Lib.byteCells_encodeRune]; exact h1), h2⟩
end Go.Proofs.T
namespace Go.Proofs.T
open Go.RowKit
theorem tl1 (a : UInt8) : (⟨#[a]⟩ : ByteArray).toList = [a] := by
  simp [ByteArray.toList, ByteArray.toList.loop, ByteArray.size, ByteArray.get!]
theorem tl_len (s : ByteArray) : s.toList.length = s.size := by
  have : ∀ (n i : Nat) (r : List UInt8), s.size - i = n → (ByteArray.toList.loop s i r).length = r.length + n := by
    intro n
    induction n with
    | zero => intro i r h; unfold ByteArray.toList.loop; rw [if_neg (by omega)]; simp
    | succ n ih => intro i r h; unfold ByteArray.toList.loop; rw [if_pos (by omega), ih (i + 1) _ (by omega), List.length_cons]; omega
  rw [ByteArray.toList, this s.size 0 [] rfl]; simp
theorem enc39 (x : Int) (h : 0 ≤ x ∧ x ≤ 1114111) : ((Utf8.encode x).toList == [39]) = decide (x = 39) := by
  have hne : (Utf8.encode x).size ≠ 1 → ((Utf8.encode x).toList == [39]) = false := fun h1 => by
    rw [beq_eq_false_iff_ne]
    intro e
    have := tl_len (Utf8.encode x)
    rw [e] at this
    simp at this; omega
  unfold Utf8.encode at hne ⊢
  simp only at hne ⊢
  by_cases hv : Utf8.valid x = true
  · rw [if_pos hv] at hne ⊢
    by_cases h1 : x.toNat < 128
    · rw [if_pos h1] at hne ⊢
      rw [tl1]
      by_cases hx : x = 39
      · subst hx; rfl
      · rw [decide_eq_false hx]
        simp
        intro e
        have := congrArg UInt8.toNat e
        simp at this
        omega
    · rw [if_neg h1] at hne ⊢
      have h2 : (if x.toNat < 2048 then (⟨#[UInt8.ofNat (192 + x.toNat / 64), UInt8.ofNat (128 + x.toNat % 64)]⟩ : ByteArray) else if x.toNat < 65536 then ⟨#[UInt8.ofNat (224 + x.toNat / 4096), UInt8.ofNat (128 + x.toNat / 64 % 64), UInt8.ofNat (128 + x.toNat % 64)]⟩ else ⟨#[UInt8.ofNat (240 + x.toNat / 262144), UInt8.ofNat (128 + x.toNat / 4096 % 64), UInt8.ofNat (128 + x.toNat / 64 % 64), UInt8.ofNat (128 + x.toNat % 64)]⟩).size ≠ 1 := by
        split
        · exact (by decide : (2 : Nat) ≠ 1)
        · split
          · exact (by decide : (3 : Nat) ≠ 1)
          · exact (by decide : (4 : Nat) ≠ 1)
      rw [hne h2, decide_eq_false (by omega)]
  · rw [if_neg hv] at hne ⊢
    rw [if_neg (by decide)] at hne ⊢
    rw [hne (by simp [ByteArray.size, Utf8.runeError]), decide_eq_false]
    rintro rfl
    exact hv (by decide)
def charOk (n : Int) : Bool := fitsN 3 n
def quoteC (n : Int) : List UInt8 := Lib.encodeRune n ++ (if n = 39 then [39] else [])
def quoteL (l : List Int) : List UInt8 := l.flatMap quoteC
def quoteT (l : List Int) : List UInt8 × Bool := if l.all charOk = true then ([39] ++ quoteL l ++ [39], true) else ([], false)
theorem charOk_iff (n : Int) : charOk n = true ↔ (0 ≤ n ∧ n ≤ 1114111) ∧ ¬ (55296 ≤ n ∧ n ≤ 57343) := by
  unfold charOk fitsN; simp; omega
theorem enc_len (r : Int) : (Lib.encodeRune r).length ≤ 4 := by
  unfold Lib.encodeRune
  rw [List.length_map]
  unfold Lib.encodeRuneZ
  repeat' split
  all_goals simp
theorem quoteC_len (n : Int) : (quoteC n).length ≤ 5 := by
  have := enc_len n
  unfold quoteC
  split
  · rw [List.length_append]; simp; omega
  · rw [List.length_append]; simp; omega
theorem quoteL_len : ∀ (l : List Int), (quoteL l).length ≤ 5 * l.length
  | [] => by simp [quoteL]
  | n :: l => by
    have h1 := quoteC_len n
    have h2 := quoteL_len l
    unfold quoteL at h2 ⊢
    rw [List.flatMap_cons, List.length_append, List.length_cons]
    omega
set_option maxHeartbeats 4000000 in
set_option maxRecDepth 100000 in
theorem quote_any (A : Option Addr) (c : Nat) (xs : List Int) (ok : Nat → Prop) (w : World) (h : Rd Ly.i64 w ok A xs.length xs) (hx : I64s xs) (hlen : xs.length ≤ 1000000000) :
    Calls Tryz.prog 12 #[.slice A xs.length c] w fun e w' => e = .returned (.tuple #[strV (quoteT xs).1, .bool (quoteT xs).2]) ∧ Below w.heap.size w w' := by
  have HR := Lib.hid h; have HX := Lib.hid hx
  clear h hx
  have HW0 := Lib.hid (bw_str w.heap.size w.heap.size [] [39] _ (Bld.new w) (by decide) (by simp))
  unfold strV at HW0
  go_enter Tryz.func12, Tryz.ntmps12
  go_wp2_with (go_at_call 29; refine HW0.out.mono ?_; rintro e w1 ⟨rfl, hbld, hb1, _⟩)
  go_loopg [6, 7, 11] xs.length (fun gg _ _ i wr => ∃ (k : Nat) (q : List UInt8), k ≤ xs.length ∧ gg = xs.length - k ∧ i = .int .i64 k ∧ Hid (Bld w.heap.size w.heap.size q wr) ∧ Hid (q = [39] ++ quoteL (xs.take k) ∧ (xs.take k).all charOk = true) ∧ Below w.heap.size w wr)
  case atStart => exact ⟨0, _, by omega, by omega, rfl, hbld, ⟨rfl, rfl⟩, (bl_alloc (Below.refl _ _) _).trans hb1⟩
  case round =>
    clear hbld hb1
    obtain ⟨k, q, hk, rfl, rfl, HB, HQ, hb⟩ := hrel
    by_cases hlt : k < xs.length
    · obtain ⟨b, o, hA, _⟩ := HR.out.row (by omega)
      subst hA
      have e0 := (HR.out.below (by decide) hb).at1 k hlt
      have hxk := HX.out xs[k] (List.getElem_mem hlt)
      have hno : Hid (charOk xs[k] = false → quoteT xs = ([], false)) := fun h => by
        unfold quoteT
        rw [if_neg]
        intro hall
        rw [List.all_eq_true.1 hall xs[k] (List.getElem_mem hlt)] at h
        cases h
      have hst : Hid (charOk xs[k] = true → q ++ quoteC xs[k] = [39] ++ quoteL (xs.take (k + 1)) ∧ (xs.take (k + 1)).all charOk = true) := fun h => by
        rw [HQ.out.1, List.take_succ_eq_append_getElem hlt, List.all_append, HQ.out.2]
        unfold quoteL
        rw [List.flatMap_append]
        exact ⟨by simp, by simp [h]⟩
      have hql : q.length ≤ 5000000001 := by
        rw [HQ.out.1, List.length_append]
        have := quoteL_len (xs.take k)
        rw [List.length_take] at this
        simp; omega
      generalize xs[k] = x at e0 hxk hst hno
      have hbz := hb.size
      by_cases hc : charOk x = true
      · have hq := hst.out hc
        have hin := (charOk_iff x).1 hc
        have k1 : wrap32 x = x := by unfold wrap32; omega
        have k2 : (x != x) = false := by simp
        have k4 := enc39 x hin.1
        have k3 : Lib.validRune x = true := by unfold Lib.validRune; simp; omega
        have HQ2 := Lib.hid hq
        have HRU := Lib.hid (bw_rune w.heap.size w.heap.size q x (by omega) wr HB.out (by omega) hbz)
        by_cases h39 : x = 39
        · have k5 : ((Utf8.encode x).toList == [39]) = true := by rw [k4]; simpa using h39
          have hq3 : Hid (q ++ Lib.encodeRune x ++ [39] = [39] ++ quoteL (xs.take (k + 1))) := by rw [← HQ2.out.1]; unfold quoteC; rw [if_pos h39]; simp [Hid]
          have HQ4 := Lib.hid HQ2.out.2
          have hel := enc_len x
          have HW2 := Lib.hid (fun W (hB : Bld w.heap.size w.heap.size (q ++ Lib.encodeRune x) W) hz => bw_str w.heap.size w.heap.size (q ++ Lib.encodeRune x) [39] W hB (by rw [List.length_append]; simp; omega) hz)
          unfold strV at HW2
          clear hst hno hq hc hxk k4 HQ2 h39 hel
          go_wp2_with (first
            | (go_at_call 30; refine (Tryz.utf8_ValidRune _ _).mono ?_; rw [k3]; rintro e w2 ⟨rfl, rfl⟩)
            | (go_at_call 31; refine HRU.out.mono ?_; rintro e w3 ⟨⟨v3, rfl⟩, hbld3, hb3⟩)
            | (go_at_call 29; refine (HW2.out _ hbld3 (Nat.le_trans hbz hb3.size)).mono ?_; rintro e w4 ⟨rfl, hbld4, hb4, _⟩))
          go_roundg (xs.length - (k + 1))
          case measure => omega
          case rel => exact ⟨k + 1, _, by omega, rfl, by go_num, hbld4, ⟨hq3.out, HQ4.out⟩, (hb.trans hb3).trans hb4⟩
        · have k5 : ((Utf8.encode x).toList == [39]) = false := by rw [k4]; simpa using h39
          have hq3 : Hid (q ++ Lib.encodeRune x = [39] ++ quoteL (xs.take (k + 1))) := by rw [← HQ2.out.1]; unfold quoteC; rw [if_neg h39]; simp [Hid]
          have HQ4 := Lib.hid HQ2.out.2
          clear hst hno hq hc hxk k4 HQ2 h39
          go_wp2_with (first
            | (go_at_call 30; refine (Tryz.utf8_ValidRune _ _).mono ?_; rw [k3]; rintro e w2 ⟨rfl, rfl⟩)
            | (go_at_call 31; refine HRU.out.mono ?_; rintro e w3 ⟨⟨v3, rfl⟩, hbld3, hb3⟩))
          go_roundg (xs.length - (k + 1))
          case measure => omega
          case rel => exact ⟨k + 1, _, by omega, rfl, by go_num, hbld3, ⟨hq3.out, HQ4.out⟩, hb.trans hb3⟩
      · have hc := eq_false_of_ne_true hc
        have hfin := Lib.hid (hno.out hc)
        by_cases hw : wrap32 x = x
        · have k2 : (x != x) = false := by simp
          have k3 : Lib.validRune x = false := by
            cases h : Lib.validRune x
            · rfl
            · have := (charOk_iff x).2 (by unfold Lib.validRune at h; simp at h; omega)
              rw [hc] at this; cases this
          have hbd : -2147483648 ≤ x ∧ x ≤ 2147483647 := by unfold wrap32 at hw; omega
          obtain ⟨hbd1, hbd2⟩ := hbd
          clear hst hno hc hxk
          go_wp2_with (go_at_call 30; refine (Tryz.utf8_ValidRune _ _).mono ?_; rw [k3]; rintro e w2 ⟨rfl, rfl⟩)
          go_ret2
          exact ⟨by rw [hfin.out]; rfl, hb⟩
        · have hy : ∃ y, wrap32 x = y ∧ -2147483648 ≤ y ∧ y ≤ 2147483647 := ⟨_, rfl, by unfold wrap32; omega, by unfold wrap32; omega⟩
          obtain ⟨y, k1, hb1, hb2⟩ := hy
          have k2 : (x != y) = true := by simp; exact fun h => hw (by rw [k1, h])
          clear hst hno hc hxk hw
          go_wp2
          go_ret2
          exact ⟨by rw [hfin.out]; rfl, hb⟩
    · have hkn : k = xs.length := by omega
      subst hkn
      rw [List.take_length] at HQ
      have hfin : Hid (quoteT xs = (q ++ [39], true)) := by
        show _ = _
        unfold quoteT; rw [if_pos HQ.out.2, HQ.out.1]
      have hql : q.length ≤ 5000000001 := by
        rw [HQ.out.1, List.length_append]
        have := quoteL_len xs
        simp; omega
      have k2 : ¬ 9223372036854775807 < q.length + 1 := by omega
      have HS := Lib.hid (b_str w.heap.size w.heap.size q wr HB.out hb.size)
      unfold strV at HS
      go_wp2_with (go_at_call 28; refine HS.out.mono ?_; rintro e w2 ⟨rfl, hb2⟩)
      go_ret2
      exact ⟨by rw [hfin.out]; unfold strV; rw [← bcat]; rfl, hb.trans hb2⟩
end Go.Proofs.T
namespace Go.Proofs.T
open Go.RowKit
/-- What a node holds, but kids. -/
def valueT (n : Node) : List UInt8 := if n.kind = 3 then (quoteT n.ints).1 else if n.kind = 4 then decsT n.decs else if n.ints.length = 0 then [48] else intsT n.ints
theorem valueT_len (n : Node) (h : NodeOk n) (h1 : n.ints.length ≤ 1000000000) (h2 : n.decs.length ≤ 1000000000) : (valueT n).length ≤ 60000000000 := by
  unfold valueT
  split
  · unfold quoteT
    split
    · have := quoteL_len n.ints
      simp; omega
    · simp
  · split
    · unfold decsT
      split
      · simp
      · refine Nat.le_trans (join_le 50 _ fun l hl => ?_) (by rw [List.length_map]; omega)
        obtain ⟨d, hd, rfl⟩ := List.mem_map.1 hl
        exact decT_len d (h.decs d hd)
    · split
      · simp
      · unfold intsT
        refine Nat.le_trans (join_le 23 _ fun l hl => ?_) (by rw [List.length_map]; omega)
        obtain ⟨d, hd, rfl⟩ := List.mem_map.1 hl
        exact numT_len d (h.ints d hd)
set_option maxHeartbeats 2000000 in
theorem value_any (n : Node) (A1 A2 A3 : Option Addr) (c1 c2 c3 : Nat) (ok : Nat → Prop) (w : World) (h : NodeAt w ok n A1 A2 A3 c1 c2 c3) (hn : NodeOk n) (h1 : n.ints.length ≤ 1000000000) (h2 : n.decs.length ≤ 1000000000) (hG : Glob w) :
    Calls Tryz.prog 54 #[nodeV n A1 A2 A3 c1 c2 c3] w fun e w' => e = .returned (strV (valueT n)) ∧ Below w.heap.size w w' := by
  unfold valueT nodeV nodeW
  by_cases h3 : n.kind = 3
  · have k1 : (n.kind == 3) = true := by simpa using h3
    rw [if_pos h3]
    have HQ := Lib.hid (fun W (hW : Below w.heap.size w W) => quote_any A2 c2 n.ints ok W (h.r2.below (by decide) hW) hn.ints h1)
    clear h hn h1 h2 hG h3
    generalize quoteT n.ints = r at HQ ⊢
    obtain ⟨s, q⟩ := r
    unfold strV at *
    go_enter Tryz.func54, Tryz.ntmps54
    go_wp2_with (go_at_call 12; refine (HQ.out _ (bl_alloc (Below.refl _ _) _)).mono ?_; rintro e w1 ⟨rfl, hb1⟩)
    go_ret
    exact ⟨rfl, bl_trans hb1 (bl_alloc (Below.refl _ _) _)⟩
  · have k1 : (n.kind == 3) = false := by simpa using h3
    rw [if_neg h3]
    by_cases h4 : n.kind = 4
    · have k2 : (n.kind == 4) = true := by simpa using h4
      rw [if_pos h4]
      have HQ := Lib.hid (fun W (hW : Below w.heap.size w W) => decs_any A3 c3 n.decs ok W (h.r3.below (by decide) hW) hn.decs (hG.below hW) h2)
      clear h hn h1 h2 hG h3 h4
      generalize decsT n.decs = s at HQ ⊢
      unfold strV at *
      go_enter Tryz.func54, Tryz.ntmps54
      go_wp2_with (go_at_call 18; refine (HQ.out _ (bl_alloc (Below.refl _ _) _)).mono ?_; rintro e w1 ⟨rfl, hb1⟩)
      go_ret
      exact ⟨rfl, bl_trans hb1 (bl_alloc (Below.refl _ _) _)⟩
    · have k2 : (n.kind == 4) = false := by simpa using h4
      rw [if_neg h4]
      by_cases h5 : n.ints.length = 0
      · have k3 : ((n.ints.length : Int) == 0) = true := by simpa using h5
        rw [if_pos h5]
        clear h hn h1 h2 hG h3 h4 h5
        unfold strV at *
        go_enter Tryz.func54, Tryz.ntmps54
        go_wp2
        go_ret
        exact ⟨rfl, bl_alloc (Below.refl _ _) _⟩
      · have k3 : ((n.ints.length : Int) == 0) = false := by simpa using h5
        rw [if_neg h5]
        have HQ := Lib.hid (fun W (hW : Below w.heap.size w W) => ints_any A2 c2 n.ints ok W (h.r2.below (by decide) hW) hn.ints (hG.below hW) h1)
        clear h hn h1 h2 hG h3 h4 h5
        generalize intsT n.ints = s at HQ ⊢
        unfold strV at *
        go_enter Tryz.func54, Tryz.ntmps54
        go_wp2_with (go_at_call 10; refine (HQ.out _ (bl_alloc (Below.refl _ _) _)).mono ?_; rintro e w1 ⟨rfl, hb1⟩)
        go_ret
        exact ⟨rfl, bl_trans hb1 (bl_alloc (Below.refl _ _) _)⟩
end Go.Proofs.T
namespace Go.Proofs.T
open Go.RowKit
def headT (n : Node) : List UInt8 := if 0 < n.shape.length then intsT n.shape ++ [226, 141, 180] else if n.kind = 5 then [226, 138, 130] else []
/-- An array's notation. -/
def textN : Nat → List Node → List UInt8
  | 0, _ => []
  | _ + 1, [] => []
  | f + 1, n :: rest => headT n ++ (if n.kind = 5 then (kidsL (rest.length + 1) rest).flatMap (fun k => [40] ++ textN f k ++ [41]) else valueT n)
/-- What write does, for arrays of up to f nodes. -/
def WriteIH (f : Nat) (w0 : World) (ok : Nat → Prop) (b : Nat) : Prop := ∀ (a suf : List Node), a.length ≤ f → rightA a = true → NodesOk a → InOk a → (a ++ suf).length ≤ 1000000000 → ∀ (A : Option Addr) (c : Nat) (l : List UInt8) (w : World),
  Rd lNode w0 ok A (a ++ suf).length (a ++ suf) → (a ++ suf).length ≤ c → Below w0.heap.size w0 w → Bld w0.heap.size b l w → l.length + (textN f a).length ≤ 140737488355328 →
  Calls Tryz.prog 27 #[.pointer (some ⟨b, 0, none⟩), .slice A (a ++ suf).length c] w fun e w' => ∃ A' c', e = .returned (.slice A' suf.length c') ∧ suf.length ≤ c' ∧ Rd lNode w0 ok A' suf.length suf ∧ Bld w0.heap.size b (l ++ textN f a) w' ∧ Below w0.heap.size w w'
theorem Bld.lt {B b : Nat} {l : List UInt8} {w : World} (h : Bld B b l w) : b < w.heap.size := h.elim (fun h => h.lt) (fun h => h.lt)
section
variable (bb o c b : Nat) (n : Node) (suf : List Node) (ok : Nat → Prop) (w0 w : World) (l : List UInt8)
set_option maxHeartbeats 4000000 in
set_option maxRecDepth 100000 in
theorem write_leaf0 (h : Rd lNode w0 ok (some ⟨bb, o, none⟩) (n :: suf).length (n :: suf)) (hok : ∀ b, ok b → b < w0.heap.size) (hc : (n :: suf).length ≤ c) (hx : NodeOk n) (hin : n.shape.length ≤ 1000000000 ∧ n.ints.length ≤ 1000000000 ∧ n.decs.length ≤ 1000000000) (hlen : (n :: suf).length ≤ 1000000000)
    (hk5 : n.kind ≠ 5) (hs : ¬ 0 < n.shape.length) (hG : Glob w0) (hb0 : Below w0.heap.size w0 w) (hB : Bld w0.heap.size b l w) (hl : l.length + (valueT n).length ≤ 140737488355328) :
    Calls Tryz.prog 27 #[.pointer (some ⟨b, 0, none⟩), .slice (some ⟨bb, o, none⟩) (n :: suf).length c] w fun e w' => ∃ A' c', e = .returned (.slice A' suf.length c') ∧ suf.length ≤ c' ∧ Rd lNode w0 ok A' suf.length suf ∧ Bld w0.heap.size b (l ++ valueT n) w' ∧ Below w0.heap.size w w' := by
  obtain ⟨A1, c1, A2, c2, A3, c3, ⟨q0, q1, q2, q3⟩, hn⟩ := (h.move (by decide) fun k hk hlt => hb0.block k (hok k hk)).nodeAt 0 (by simp)
  simp only [Nat.zero_mul, Nat.add_zero, List.getElem_cons_zero] at q0 q1 q2 q3 hn
  have hd := h.drop (by decide) 1 (by simp)
  have hm := h.max
  simp only [List.length_cons, Nat.add_sub_cancel, List.drop_succ_cons, List.drop_zero] at hd hc hlen hm ⊢
  have k1 : (n.kind == 5) = false := by simpa using hk5
  have k2 : decide (0 < n.shape.length) = false := by simpa using hs
  have HD := Lib.hid hd
  have hbl := hB.lt
  have HV := Lib.hid (fun W (hW : Below w.heap.size w W) => value_any n A1 A2 A3 c1 c2 c3 ok W (hn.move fun k _ hlt => hW.block k hlt) hx hin.2.1 hin.2.2 ((hG.below hb0).below hW))
  generalize valueT n = t at HV hl ⊢
  have HW := Lib.hid (fun W (hW : Bld w0.heap.size b l W) hz => bw_str w0.heap.size b l t W hW hl hz)
  have HB := Lib.hid hB
  have hsz := hb0.size
  unfold strV nodeV nodeW at HV
  unfold strV at HW
  clear h hd hk5 hs hG hn hx hin hB hl hok
  by_cases hcap : c = 1
  · subst hcap
    obtain rfl : suf = [] := List.eq_nil_of_length_eq_zero (by omega)
    simp only [List.length_nil, Nat.zero_add] at hc hlen hm ⊢
    go_enter Tryz.func27, Tryz.ntmps27
    go_wp2_with (first
      | (go_at_call 54; refine (HV.out _ (bl_alloc (Below.refl _ _) _)).mono ?_; rintro e w1 ⟨rfl, hb1⟩)
      | (go_at_call 29; refine (HW.out _ ((HB.out.below (bl_alloc (Below.refl _ _) _)).below hb1) (Nat.le_trans hsz (bl_trans hb1 (bl_alloc (Below.refl _ _) _)).size)).mono ?_; rintro e w2 ⟨rfl, hbld, hb2, _⟩))
    go_ret
    exact ⟨_, _, rfl, by omega, Rd.nil _ _ _ _, hbld, ((bl_trans hb1 (bl_alloc (Below.refl _ _) _)).mono hsz).trans hb2⟩
  · have hc1' : suf.length ≤ c - 1 := by omega
    go_enter Tryz.func27, Tryz.ntmps27
    go_wp2_with (first
      | (go_at_call 54; refine (HV.out _ (bl_alloc (Below.refl _ _) _)).mono ?_; rintro e w1 ⟨rfl, hb1⟩)
      | (go_at_call 29; refine (HW.out _ ((HB.out.below (bl_alloc (Below.refl _ _) _)).below hb1) (Nat.le_trans hsz (bl_trans hb1 (bl_alloc (Below.refl _ _) _)).size)).mono ?_; rintro e w2 ⟨rfl, hbld, hb2, _⟩))
    go_ret
    exact ⟨_, _, rfl, hc1', HD.out, hbld, ((bl_trans hb1 (bl_alloc (Below.refl _ _) _)).mono hsz).trans hb2⟩
end
end Go.Proofs.T
namespace Go.Proofs.T
open Go.RowKit
theorem intsT_len (l : List Int) (h : I64s l) : (intsT l).length ≤ 24 * l.length := by
  unfold intsT
  refine Nat.le_trans (join_le 23 _ fun t ht => ?_) (by rw [List.length_map]; exact Nat.le_refl _)
  obtain ⟨d, hd, rfl⟩ := List.mem_map.1 ht
  exact numT_len d (h d hd)
section
variable (bb o c b : Nat) (n : Node) (suf : List Node) (ok : Nat → Prop) (w0 w : World) (l : List UInt8)
set_option maxHeartbeats 4000000 in
set_option maxRecDepth 100000 in
theorem write_leaf1 (h : Rd lNode w0 ok (some ⟨bb, o, none⟩) (n :: suf).length (n :: suf)) (hok : ∀ b, ok b → b < w0.heap.size) (hc : (n :: suf).length ≤ c) (hx : NodeOk n) (hin : n.shape.length ≤ 1000000000 ∧ n.ints.length ≤ 1000000000 ∧ n.decs.length ≤ 1000000000) (hlen : (n :: suf).length ≤ 1000000000)
    (hk5 : n.kind ≠ 5) (hs : 0 < n.shape.length) (hG : Glob w0) (hb0 : Below w0.heap.size w0 w) (hB : Bld w0.heap.size b l w) (hl : l.length + (intsT n.shape ++ [226, 141, 180] ++ valueT n).length ≤ 140737488355328) :
    Calls Tryz.prog 27 #[.pointer (some ⟨b, 0, none⟩), .slice (some ⟨bb, o, none⟩) (n :: suf).length c] w fun e w' => ∃ A' c', e = .returned (.slice A' suf.length c') ∧ suf.length ≤ c' ∧ Rd lNode w0 ok A' suf.length suf ∧ Bld w0.heap.size b (l ++ (intsT n.shape ++ [226, 141, 180] ++ valueT n)) w' ∧ Below w0.heap.size w w' := by
  obtain ⟨A1, c1, A2, c2, A3, c3, ⟨q0, q1, q2, q3⟩, hn⟩ := (h.move (by decide) fun k hk hlt => hb0.block k (hok k hk)).nodeAt 0 (by simp)
  simp only [Nat.zero_mul, Nat.add_zero, List.getElem_cons_zero] at q0 q1 q2 q3 hn
  have hd := h.drop (by decide) 1 (by simp)
  have hm := h.max
  simp only [List.length_cons, Nat.add_sub_cancel, List.drop_succ_cons, List.drop_zero] at hd hc hlen hm ⊢
  have k1 : (n.kind == 5) = false := by simpa using hk5
  have k2 : decide (0 < n.shape.length) = true := by simpa using hs
  have HD := Lib.hid hd
  have hbl := hB.lt
  have hsz := hb0.size
  have hokw := Lib.hid (fun k (hk : ok k) => Nat.lt_of_lt_of_le (hok k hk) hsz)
  have hil := intsT_len n.shape hx.shape
  have HI := Lib.hid (fun W (hW : Below w.heap.size w W) => ints_any A1 c1 n.shape ok W (hn.r1.below (by decide) hW) hx.shape ((hG.below hb0).below hW) hin.1)
  have HV := Lib.hid (fun W (hW : Below w0.heap.size w W) => value_any n A1 A2 A3 c1 c2 c3 ok W (hn.move fun k hk _ => hW.block k (hok k hk)) hx hin.2.1 hin.2.2 (hG.below (hb0.trans hW)))
  generalize valueT n = t at HV hl ⊢
  generalize hst : intsT n.shape = s at HI hl hil ⊢
  have hin1 := hin.1
  have k3 : ¬ 9223372036854775807 < s.length + 3 := by omega
  simp only [List.length_append] at hl
  have HW1 := Lib.hid (fun W (hW : Bld w0.heap.size b l W) hz => bw_str w0.heap.size b l (s ++ [226, 141, 180]) W hW (by rw [List.length_append]; omega) hz)
  have HW2 := Lib.hid (fun W (hW : Bld w0.heap.size b (l ++ (s ++ [226, 141, 180])) W) hz => bw_str w0.heap.size b (l ++ (s ++ [226, 141, 180])) t W hW (by simp only [List.length_append]; omega) hz)
  have HB := Lib.hid hB
  rw [show l ++ (s ++ [226, 141, 180] ++ t) = l ++ (s ++ [226, 141, 180]) ++ t by simp]
  unfold strV nodeV nodeW at HV
  unfold strV at HW1 HW2 HI
  clear h hd hk5 hs hG hn hx hin hB hl hok hst hil
  have hbne : b ≠ w.heap.size := Nat.ne_of_lt hbl
  by_cases hcap : c = 1
  · subst hcap
    obtain rfl : suf = [] := List.eq_nil_of_length_eq_zero (by omega)
    simp only [List.length_nil, Nat.zero_add] at hc hlen hm ⊢
    go_enter Tryz.func27, Tryz.ntmps27
    go_wp2_with (first
      | (go_at_call 10; refine (HI.out _ (bl_alloc (Below.refl _ _) _)).mono ?_; rintro e w1 ⟨rfl, hb1⟩; have bx1 := (Box.new w _ 28).below hb1; obtain ⟨⟨t0, t1, t2, t3⟩, s0, s1, s2, s3⟩ := bx1.cells)
      | (go_at_call 29; rw [show ((⟨s.toArray⟩ : ByteArray) ++ ⟨#[226, 141, 180]⟩) = ⟨(s ++ [226, 141, 180]).toArray⟩ from bcat s [226, 141, 180]]; have HH := HW1; clear HW1; refine (HH.out _ ((HB.out.below (bl_alloc (Below.refl _ _) _)).below hb1) (Nat.le_trans hsz (bl_trans hb1 (bl_alloc (Below.refl _ _) _)).size)).mono ?_; rintro e w2 ⟨rfl, hbld2, hb2, hkk2⟩; have bx2 := hkk2 _ _ _ (by decide) (fun e => hbne e.symm) bx1; obtain ⟨⟨t4, t5, t6, t7⟩, s4, s5, s6, s7⟩ := bx2.cells)
      | (go_at_call 54; refine (HV.out _ (((bl_trans hb1 (bl_alloc (Below.refl _ _) _)).mono hsz).trans hb2)).mono ?_; rintro e w3 ⟨rfl, hb3⟩)
      | (go_at_call 29; refine (HW2.out _ (hbld2.below hb3) (Nat.le_trans (Nat.le_trans hsz (bl_trans hb1 (bl_alloc (Below.refl _ _) _)).size) (Nat.le_trans hb2.size hb3.size))).mono ?_; rintro e w4 ⟨rfl, hbld4, hb4, _⟩))
    go_ret
    exact ⟨_, _, rfl, by omega, Rd.nil _ _ _ _, hbld4, ((((bl_trans hb1 (bl_alloc (Below.refl _ _) _)).mono hsz).trans hb2).trans (hb3.mono (Nat.le_trans (Nat.le_trans hsz (bl_trans hb1 (bl_alloc (Below.refl _ _) _)).size) hb2.size))).trans hb4⟩
  · have hc1' : suf.length ≤ c - 1 := by omega
    go_enter Tryz.func27, Tryz.ntmps27
    go_wp2_with (first
      | (go_at_call 10; refine (HI.out _ (bl_alloc (Below.refl _ _) _)).mono ?_; rintro e w1 ⟨rfl, hb1⟩; have bx1 := (Box.new w _ 28).below hb1; obtain ⟨⟨t0, t1, t2, t3⟩, s0, s1, s2, s3⟩ := bx1.cells)
      | (go_at_call 29; rw [show ((⟨s.toArray⟩ : ByteArray) ++ ⟨#[226, 141, 180]⟩) = ⟨(s ++ [226, 141, 180]).toArray⟩ from bcat s [226, 141, 180]]; have HH := HW1; clear HW1; refine (HH.out _ ((HB.out.below (bl_alloc (Below.refl _ _) _)).below hb1) (Nat.le_trans hsz (bl_trans hb1 (bl_alloc (Below.refl _ _) _)).size)).mono ?_; rintro e w2 ⟨rfl, hbld2, hb2, hkk2⟩; have bx2 := hkk2 _ _ _ (by decide) (fun e => hbne e.symm) bx1; obtain ⟨⟨t4, t5, t6, t7⟩, s4, s5, s6, s7⟩ := bx2.cells)
      | (go_at_call 54; refine (HV.out _ (((bl_trans hb1 (bl_alloc (Below.refl _ _) _)).mono hsz).trans hb2)).mono ?_; rintro e w3 ⟨rfl, hb3⟩)
      | (go_at_call 29; refine (HW2.out _ (hbld2.below hb3) (Nat.le_trans (Nat.le_trans hsz (bl_trans hb1 (bl_alloc (Below.refl _ _) _)).size) (Nat.le_trans hb2.size hb3.size))).mono ?_; rintro e w4 ⟨rfl, hbld4, hb4, _⟩))
    go_ret
    exact ⟨_, _, rfl, hc1', HD.out, hbld4, ((((bl_trans hb1 (bl_alloc (Below.refl _ _) _)).mono hsz).trans hb2).trans (hb3.mono (Nat.le_trans (Nat.le_trans hsz (bl_trans hb1 (bl_alloc (Below.refl _ _) _)).size) hb2.size))).trans hb4⟩
end
end Go.Proofs.T
namespace Go.Proofs.T
open Go.RowKit
section
variable (bb o c b f : Nat) (n : Node) (rest suf : List Node) (ok : Nat → Prop) (w0 w : World) (l : List UInt8)
/-- The loop of write: behind the head. -/
def kidT (f : Nat) (k : List Node) : List UInt8 := [40] ++ textN f k ++ [41]
theorem count_any2 (A : Option Addr) (c : Nat) (xs : List Int) (ok : Nat → Prop) (w : World) (h : Rd Ly.i64 w ok A xs.length xs) :
    Calls Tryz.prog 36 #[.slice A xs.length c] w fun e w' => e = .returned (.tuple #[.int .i64 (countS xs).1, .bool (countS xs).2]) ∧ Below w.heap.size w w' := count_any A c xs ok w h
set_option maxHeartbeats 4000000 in
set_option maxRecDepth 100000 in
theorem write_nest (h : Rd lNode w0 ok (some ⟨bb, o, none⟩) (n :: (rest ++ suf)).length (n :: (rest ++ suf))) (hok : ∀ b, ok b → b < w0.heap.size) (hc : (n :: (rest ++ suf)).length ≤ c) (hx : NodesOk (n :: rest)) (hin : InOk (n :: rest)) (hlen : (n :: (rest ++ suf)).length ≤ 1000000000) (hf : rest.length ≤ f)
    (hr : rightA (n :: rest) = true) (hk5 : n.kind = 5) (hG : Glob w0) (hb0 : Below w0.heap.size w0 w) (hB : Bld w0.heap.size b l w) (hl : l.length + (textN (f + 1) (n :: rest)).length ≤ 140737488355328) (IH : WriteIH f w0 ok b) :
    Calls Tryz.prog 27 #[.pointer (some ⟨b, 0, none⟩), .slice (some ⟨bb, o, none⟩) (n :: (rest ++ suf)).length c] w fun e w' => ∃ A' c', e = .returned (.slice A' suf.length c') ∧ suf.length ≤ c' ∧ Rd lNode w0 ok A' suf.length suf ∧ Bld w0.heap.size b (l ++ textN (f + 1) (n :: rest)) w' ∧ Below w0.heap.size w w' := by
  obtain ⟨A1, c1, A2, c2, A3, c3, ⟨q0, q1, q2, q3⟩, hn⟩ := (h.move (by decide) fun k hk hlt => hb0.block k (hok k hk)).nodeAt 0 (by simp)
  simp only [Nat.zero_mul, Nat.add_zero, List.getElem_cons_zero] at q0 q1 q2 q3 hn
  have hd := h.drop (by decide) 1 (by simp)
  have hm := h.max
  have hK := KidsC.of hr hk5
  have hsp := kidsL_spec (rest.length + 1) (itemsN n) rest (by omega) hK.2
  have hcnt : (countS n.shape).1 = ((kidsL (rest.length + 1) rest).length : Int) := by rw [hsp.1, (items_pos hK.1).1]
  have hcb := countS_bd n.shape
  have hkid : ∀ k ∈ kidsL (rest.length + 1) rest, k.length ≤ f ∧ rightA k = true ∧ NodesOk k ∧ InOk k := fun k hk => by
    have h6 := hsp.2.2 k hk
    have hm : ∀ x ∈ k, x ∈ rest := fun x hx => by rw [← hsp.2.1]; exact List.mem_flatten.2 ⟨k, hk, hx⟩
    exact ⟨by omega, h6.1, fun x hx' => hx x (List.mem_cons_of_mem _ (hm x hx')), fun x hx' => hin x (List.mem_cons_of_mem _ (hm x hx'))⟩
  have htx : textN (f + 1) (n :: rest) = headT n ++ (kidsL (rest.length + 1) rest).flatMap (kidT f) := by
    rw [textN, if_pos hk5]; rfl
  rw [htx] at hl ⊢
  have hfl : rest ++ suf = (kidsL (rest.length + 1) rest).flatten ++ suf := by rw [hsp.2.1]
  rw [hfl] at hd hm hc hlen ⊢
  generalize kidsL (rest.length + 1) rest = kids at *
  simp only [List.length_cons, Nat.add_sub_cancel, List.drop_succ_cons, List.drop_zero] at hd hc hlen hm ⊢
  have k1 : (n.kind == 5) = true := by simpa using hk5
  have HD := Lib.hid hd
  have HK := Lib.hid hkid
  have HIH := Lib.hid IH
  have hbl := hB.lt
  have hsz := hb0.size
  have HOK := Lib.hid hok
  have hxn := hx n (by simp)
  have hinn := hin n (by simp)
  have HI := Lib.hid (fun W (hW : Below w.heap.size w W) => ints_any A1 c1 n.shape ok W (hn.r1.below (by decide) hW) hxn.shape ((hG.below hb0).below hW) hinn.1)
  have hcn := fun W (hW : Below w0.heap.size w W) => count_any2 A1 c1 n.shape ok W (hn.r1.move (by decide) fun k hk _ => hW.block k (hok k hk))
  rw [hcnt] at hcn hcb
  have HCN := Lib.hid hcn
  have hil := intsT_len n.shape hxn.shape
  have HB := Lib.hid hB
  have HG := Lib.hid hG
  have HB0 := Lib.hid hb0
  have hTl : ((kids.flatten ++ suf).length) ≤ 1000000000 := by omega
  have hbne : b ≠ w.heap.size := Nat.ne_of_lt hbl
  have hin1 := hinn.1
  clear h hd hkid IH hok hxn hinn hcn hB hG hb0 hx hin hr hsp hK htx hfl hf hcnt hn
  by_cases hs : 0 < n.shape.length
  · have k2 : decide (0 < n.shape.length) = true := by simpa using hs
    have hhd : headT n = intsT n.shape ++ [226, 141, 180] := by unfold headT; rw [if_pos hs]
    have HHD := Lib.hid hhd
    generalize hst0 : intsT n.shape = s at HI hil HHD
    have k3 : ¬ 9223372036854775807 < s.length + 3 := by omega
    have HW := Lib.hid (fun W (hW : Bld w0.heap.size b l W) hz => bw_str w0.heap.size b l (s ++ [226, 141, 180]) W hW (by rw [HHD.out] at hl; simp only [List.length_append] at hl ⊢; omega) hz)
    unfold strV at HW HI
    clear hs hhd hst0 hil
    by_cases hcap : c = 1
    · subst hcap
      have hnil : (kids.flatten ++ suf).length = 0 := by omega
      rw [hnil]
      clear HD
      go_enter Tryz.func27, Tryz.ntmps27
      go_wp2_with (first
        | (go_at_call 10; refine (HI.out _ (bl_alloc (Below.refl _ _) _)).mono ?_; rintro e w1 ⟨rfl, hb1⟩; have bx1 := (Box.new w _ 28).below hb1; obtain ⟨⟨t0, t1, t2, t3⟩, s0, s1, s2, s3⟩ := bx1.cells)
        | (go_at_call 29; rw [show ((⟨s.toArray⟩ : ByteArray) ++ ⟨#[226, 141, 180]⟩) = ⟨(s ++ [226, 141, 180]).toArray⟩ from bcat s [226, 141, 180]]; refine (HW.out _ ((HB.out.below (bl_alloc (Below.refl _ _) _)).below hb1) (Nat.le_trans hsz (bl_trans hb1 (bl_alloc (Below.refl _ _) _)).size)).mono ?_; rintro e w2 ⟨rfl, hbld2, hb2, hkk2⟩; have bx2 := hkk2 _ _ _ (by decide) (fun e => hbne e.symm) bx1; obtain ⟨⟨t4, t5, t6, t7⟩, s4, s5, s6, s7⟩ := bx2.cells; have hbw2 := ((bl_trans hb1 (bl_alloc (Below.refl _ _) _)).mono hsz).trans hb2)
        | (go_at_call 36; refine (HCN.out _ hbw2).mono ?_; rintro e w3 ⟨rfl, hb3⟩))

      go_loopg [1, 46] kids.length (fun gg s1 i wr => ∃ (i0 m : Nat) (A' : Option Addr) (c' : Nat) (q : List UInt8), i0 ≤ kids.length ∧ gg = kids.length - i0 ∧ i = .int .i64 i0 ∧ s1 = .slice A' m c' ∧ Hid (m = ((kids.drop i0).flatten ++ suf).length ∧ m ≤ c' ∧ Rd lNode w0 ok A' m ((kids.drop i0).flatten ++ suf)) ∧ Hid (Bld w0.heap.size b q wr) ∧ Hid (q = l ++ headT n ++ (kids.take i0).flatMap (kidT f)) ∧ Below w0.heap.size w wr)
      case atStart => exact ⟨0, 0, _, _, _, by omega, by omega, rfl, rfl, ⟨by rw [List.drop_zero]; exact hnil.symm, by omega, by rw [List.drop_zero, List.eq_nil_of_length_eq_zero hnil]; exact Rd.nil _ _ _ _⟩, hbld2.below hb3, (by show _ = _; rw [HHD.out]; simp), hbw2.trans (hb3.mono (Nat.le_trans hsz hbw2.size))⟩
      case round =>
        clear hbld2 hb3 hbw2 hb2 hb1
        obtain ⟨i0, m, A', c', q, hi0, rfl, rfl, rfl, HM, HBL, HQ, hbw⟩ := hrel
        by_cases hlt : i0 < kids.length
        · have hk0 := HK.out kids[i0] (List.getElem_mem hlt)
          have hdr : kids.drop i0 = kids[i0] :: kids.drop (i0 + 1) := List.drop_eq_getElem_cons hlt
          have htk : kids.take (i0 + 1) = kids.take i0 ++ [kids[i0]] := List.take_succ_eq_append_getElem hlt
          have hall : kids = kids.take i0 ++ kids[i0] :: kids.drop (i0 + 1) := by rw [← hdr, List.take_append_drop]
          have hlen2 : q.length + (kidT f kids[i0]).length ≤ 140737488355328 := by
            have h1 : (l ++ (headT n ++ kids.flatMap (kidT f))).length ≤ 140737488355328 := by rw [List.length_append]; exact hl
            rw [hall, List.flatMap_append, List.flatMap_cons] at h1
            rw [HQ.out]
            simp only [List.length_append] at h1 ⊢
            omega
          have hmm : m = (kids[i0] ++ ((kids.drop (i0 + 1)).flatten ++ suf)).length ∧ m ≤ c' ∧ Rd lNode w0 ok A' m (kids[i0] ++ ((kids.drop (i0 + 1)).flatten ++ suf)) := by
            have := HM.out
            rw [hdr, List.flatten_cons, List.append_assoc] at this
            exact this
          have hml : m ≤ 1000000000 := by
            have h1 : (kids.flatten ++ suf).length ≤ 1000000000 := hTl
            rw [hmm.1, ← List.append_assoc, ← List.flatten_cons, ← hdr]
            rw [← List.take_append_drop i0 kids, List.flatten_append, List.append_assoc, List.length_append] at h1
            omega
          have hst : Hid (q ++ kidT f kids[i0] = l ++ headT n ++ (kids.take (i0 + 1)).flatMap (kidT f)) := by
            show _ = _
            rw [htk, List.flatMap_append, HQ.out]; simp
          have hcall : Hid (∀ W, Below w0.heap.size w0 W → Bld w0.heap.size b (q ++ [40]) W → Calls Tryz.prog 27 #[.pointer (some ⟨b, 0, none⟩), .slice A' m c'] W fun e w' => ∃ A2 c2 m2, e = .returned (.slice A2 m2 c2) ∧ (m2 = ((kids.drop (i0 + 1)).flatten ++ suf).length ∧ m2 ≤ c2 ∧ Rd lNode w0 ok A2 m2 ((kids.drop (i0 + 1)).flatten ++ suf)) ∧ Bld w0.heap.size b (q ++ [40] ++ textN f kids[i0]) w' ∧ Below w0.heap.size W w') := fun W hW hBW => by
            have := HIH.out kids[i0] ((kids.drop (i0 + 1)).flatten ++ suf) hk0.1 hk0.2.1 hk0.2.2.1 hk0.2.2.2 (by rw [← hmm.1]; exact hml) A' c' (q ++ [40]) W (by rw [← hmm.1]; exact hmm.2.2) (by rw [← hmm.1]; exact hmm.2.1) hW hBW (by
              unfold kidT at hlen2
              simp only [List.length_append, List.length_cons, List.length_nil] at hlen2 ⊢
              omega)
            rw [← hmm.1] at this
            refine this.mono ?_
            rintro e w' ⟨A2, c2, rfl, h1, h2, h3, h4⟩
            exact ⟨A2, c2, _, rfl, ⟨rfl, h1, h2⟩, h3, h4⟩
          have hW1 : Hid (∀ W, Bld w0.heap.size b q W → w0.heap.size ≤ W.heap.size → _) := fun W hW hz => bw_str w0.heap.size b q [40] W hW (by unfold kidT at hlen2; simp only [List.length_append, List.length_cons, List.length_nil] at hlen2 ⊢; omega) hz
          have hW2 : Hid (∀ W, Bld w0.heap.size b (q ++ [40] ++ textN f kids[i0]) W → w0.heap.size ≤ W.heap.size → _) := fun W hW hz => bw_str w0.heap.size b (q ++ [40] ++ textN f kids[i0]) [41] W hW (by unfold kidT at hlen2; simp only [List.length_append, List.length_cons, List.length_nil] at hlen2 ⊢; omega) hz
          have hst2 : Hid (q ++ [40] ++ textN f kids[i0] ++ [41] = l ++ headT n ++ (kids.take (i0 + 1)).flatMap (kidT f)) := by
            show _ = _
            rw [← hst.out]; unfold kidT; simp
          clear hdr htk hall hmm hst hk0 hlen2
          generalize q ++ [40] ++ textN f kids[i0] = q3 at hcall hW2 hst2
          have hbz := Nat.le_trans hsz hbw.size
          unfold strV at hW1 hW2
          go_wp2_with (first
            | (go_at_call 29; have HH := hW1; clear hW1; refine (HH.out _ HBL.out (by have := hbw.size; omega)).mono ?_; rintro e w1 ⟨rfl, hbld1, hb1, _⟩)
            | (go_at_call 27; refine (hcall.out _ ((HB0.out.trans hbw).trans hb1) hbld1).mono ?_; rintro e w2 ⟨A2, c2, m2, rfl, hm2, hbld2, hb2⟩; replace hm2 := Lib.hid hm2)
            | (go_at_call 29; refine (hW2.out _ hbld2 (by have := hb1.size; have := hb2.size; have := hbw.size; omega)).mono ?_; rintro e w3 ⟨rfl, hbld3, hb3, _⟩))
          go_roundg (kids.length - (i0 + 1))
          case measure => omega
          case rel => exact ⟨i0 + 1, m2, A2, c2, _, by omega, rfl, by go_num, rfl, hm2, hbld3, hst2.out, ((hbw.trans hb1).trans hb2).trans hb3⟩
        · have hkn : i0 = kids.length := by omega
          subst hkn
          have hmm := HM.out
          rw [List.drop_length, List.flatten_nil, List.nil_append] at hmm
          obtain ⟨hm1, hm2, hm3⟩ := hmm
          subst hm1
          have hq := HQ.out
          rw [List.take_length] at hq
          have HQF : Hid (q = l ++ (headT n ++ kids.flatMap (kidT f))) := by rw [hq, List.append_assoc]; rfl
          have HF := Lib.hid (And.intro hm2 hm3)
          clear hm2 hm3 hq HM HQ
          go_wp2
          go_ret
          exact ⟨_, _, rfl, HF.out.1, HF.out.2, by rw [← HQF.out]; exact HBL.out, hbw⟩
    · have hc1' : (kids.flatten ++ suf).length ≤ c - 1 := by omega
      obtain ⟨M, hM⟩ : ∃ M, (kids.flatten ++ suf).length = M := ⟨_, rfl⟩
      have HM0 := Lib.hid hM
      rw [hM] at hc1' hc hm hlen ⊢
      clear hM
      go_enter Tryz.func27, Tryz.ntmps27
      go_wp2_with (first
        | (go_at_call 10; refine (HI.out _ (bl_alloc (Below.refl _ _) _)).mono ?_; rintro e w1 ⟨rfl, hb1⟩; have bx1 := (Box.new w _ 28).below hb1; obtain ⟨⟨t0, t1, t2, t3⟩, s0, s1, s2, s3⟩ := bx1.cells)
        | (go_at_call 29; rw [show ((⟨s.toArray⟩ : ByteArray) ++ ⟨#[226, 141, 180]⟩) = ⟨(s ++ [226, 141, 180]).toArray⟩ from bcat s [226, 141, 180]]; refine (HW.out _ ((HB.out.below (bl_alloc (Below.refl _ _) _)).below hb1) (Nat.le_trans hsz (bl_trans hb1 (bl_alloc (Below.refl _ _) _)).size)).mono ?_; rintro e w2 ⟨rfl, hbld2, hb2, hkk2⟩; have bx2 := hkk2 _ _ _ (by decide) (fun e => hbne e.symm) bx1; obtain ⟨⟨t4, t5, t6, t7⟩, s4, s5, s6, s7⟩ := bx2.cells; have hbw2 := ((bl_trans hb1 (bl_alloc (Below.refl _ _) _)).mono hsz).trans hb2)
        | (go_at_call 36; refine (HCN.out _ hbw2).mono ?_; rintro e w3 ⟨rfl, hb3⟩))

      go_loopg [1, 46] kids.length (fun gg s1 i wr => ∃ (i0 m : Nat) (A' : Option Addr) (c' : Nat) (q : List UInt8), i0 ≤ kids.length ∧ gg = kids.length - i0 ∧ i = .int .i64 i0 ∧ s1 = .slice A' m c' ∧ Hid (m = ((kids.drop i0).flatten ++ suf).length ∧ m ≤ c' ∧ Rd lNode w0 ok A' m ((kids.drop i0).flatten ++ suf)) ∧ Hid (Bld w0.heap.size b q wr) ∧ Hid (q = l ++ headT n ++ (kids.take i0).flatMap (kidT f)) ∧ Below w0.heap.size w wr)
      case atStart => exact ⟨0, _, _, _, _, by omega, by omega, rfl, rfl, ⟨by rw [List.drop_zero]; exact HM0.out.symm, by omega, by rw [← HM0.out, List.drop_zero]; exact HD.out⟩, hbld2.below hb3, (by show _ = _; rw [HHD.out]; simp), hbw2.trans (hb3.mono (Nat.le_trans hsz hbw2.size))⟩
      case round =>
        clear hbld2 hb3 hbw2 hb2 hb1
        obtain ⟨i0, m, A', c', q, hi0, rfl, rfl, rfl, HM, HBL, HQ, hbw⟩ := hrel
        by_cases hlt : i0 < kids.length
        · have hk0 := HK.out kids[i0] (List.getElem_mem hlt)
          have hdr : kids.drop i0 = kids[i0] :: kids.drop (i0 + 1) := List.drop_eq_getElem_cons hlt
          have htk : kids.take (i0 + 1) = kids.take i0 ++ [kids[i0]] := List.take_succ_eq_append_getElem hlt
          have hall : kids = kids.take i0 ++ kids[i0] :: kids.drop (i0 + 1) := by rw [← hdr, List.take_append_drop]
          have hlen2 : q.length + (kidT f kids[i0]).length ≤ 140737488355328 := by
            have h1 : (l ++ (headT n ++ kids.flatMap (kidT f))).length ≤ 140737488355328 := by rw [List.length_append]; exact hl
            rw [hall, List.flatMap_append, List.flatMap_cons] at h1
            rw [HQ.out]
            simp only [List.length_append] at h1 ⊢
            omega
          have hmm : m = (kids[i0] ++ ((kids.drop (i0 + 1)).flatten ++ suf)).length ∧ m ≤ c' ∧ Rd lNode w0 ok A' m (kids[i0] ++ ((kids.drop (i0 + 1)).flatten ++ suf)) := by
            have := HM.out
            rw [hdr, List.flatten_cons, List.append_assoc] at this
            exact this
          have hml : m ≤ 1000000000 := by
            have h1 : (kids.flatten ++ suf).length ≤ 1000000000 := hTl
            rw [hmm.1, ← List.append_assoc, ← List.flatten_cons, ← hdr]
            rw [← List.take_append_drop i0 kids, List.flatten_append, List.append_assoc, List.length_append] at h1
            omega
          have hst : Hid (q ++ kidT f kids[i0] = l ++ headT n ++ (kids.take (i0 + 1)).flatMap (kidT f)) := by
            show _ = _
            rw [htk, List.flatMap_append, HQ.out]; simp
          have hcall : Hid (∀ W, Below w0.heap.size w0 W → Bld w0.heap.size b (q ++ [40]) W → Calls Tryz.prog 27 #[.pointer (some ⟨b, 0, none⟩), .slice A' m c'] W fun e w' => ∃ A2 c2 m2, e = .returned (.slice A2 m2 c2) ∧ (m2 = ((kids.drop (i0 + 1)).flatten ++ suf).length ∧ m2 ≤ c2 ∧ Rd lNode w0 ok A2 m2 ((kids.drop (i0 + 1)).flatten ++ suf)) ∧ Bld w0.heap.size b (q ++ [40] ++ textN f kids[i0]) w' ∧ Below w0.heap.size W w') := fun W hW hBW => by
            have := HIH.out kids[i0] ((kids.drop (i0 + 1)).flatten ++ suf) hk0.1 hk0.2.1 hk0.2.2.1 hk0.2.2.2 (by rw [← hmm.1]; exact hml) A' c' (q ++ [40]) W (by rw [← hmm.1]; exact hmm.2.2) (by rw [← hmm.1]; exact hmm.2.1) hW hBW (by
              unfold kidT at hlen2
              simp only [List.length_append, List.length_cons, List.length_nil] at hlen2 ⊢
              omega)
            rw [← hmm.1] at this
            refine this.mono ?_
            rintro e w' ⟨A2, c2, rfl, h1, h2, h3, h4⟩
            exact ⟨A2, c2, _, rfl, ⟨rfl, h1, h2⟩, h3, h4⟩
          have hW1 : Hid (∀ W, Bld w0.heap.size b q W → w0.heap.size ≤ W.heap.size → _) := fun W hW hz => bw_str w0.heap.size b q [40] W hW (by unfold kidT at hlen2; simp only [List.length_append, List.length_cons, List.length_nil] at hlen2 ⊢; omega) hz
          have hW2 : Hid (∀ W, Bld w0.heap.size b (q ++ [40] ++ textN f kids[i0]) W → w0.heap.size ≤ W.heap.size → _) := fun W hW hz => bw_str w0.heap.size b (q ++ [40] ++ textN f kids[i0]) [41] W hW (by unfold kidT at hlen2; simp only [List.length_append, List.length_cons, List.length_nil] at hlen2 ⊢; omega) hz
          have hst2 : Hid (q ++ [40] ++ textN f kids[i0] ++ [41] = l ++ headT n ++ (kids.take (i0 + 1)).flatMap (kidT f)) := by
            show _ = _
            rw [← hst.out]; unfold kidT; simp
          clear hdr htk hall hmm hst hk0 hlen2
          generalize q ++ [40] ++ textN f kids[i0] = q3 at hcall hW2 hst2
          have hbz := Nat.le_trans hsz hbw.size
          unfold strV at hW1 hW2
          go_wp2_with (first
            | (go_at_call 29; have HH := hW1; clear hW1; refine (HH.out _ HBL.out (by have := hbw.size; omega)).mono ?_; rintro e w1 ⟨rfl, hbld1, hb1, _⟩)
            | (go_at_call 27; refine (hcall.out _ ((HB0.out.trans hbw).trans hb1) hbld1).mono ?_; rintro e w2 ⟨A2, c2, m2, rfl, hm2, hbld2, hb2⟩; replace hm2 := Lib.hid hm2)
            | (go_at_call 29; refine (hW2.out _ hbld2 (by have := hb1.size; have := hb2.size; have := hbw.size; omega)).mono ?_; rintro e w3 ⟨rfl, hbld3, hb3, _⟩))
          go_roundg (kids.length - (i0 + 1))
          case measure => omega
          case rel => exact ⟨i0 + 1, m2, A2, c2, _, by omega, rfl, by go_num, rfl, hm2, hbld3, hst2.out, ((hbw.trans hb1).trans hb2).trans hb3⟩
        · have hkn : i0 = kids.length := by omega
          subst hkn
          have hmm := HM.out
          rw [List.drop_length, List.flatten_nil, List.nil_append] at hmm
          obtain ⟨hm1, hm2, hm3⟩ := hmm
          subst hm1
          have hq := HQ.out
          rw [List.take_length] at hq
          have HQF : Hid (q = l ++ (headT n ++ kids.flatMap (kidT f))) := by rw [hq, List.append_assoc]; rfl
          have HF := Lib.hid (And.intro hm2 hm3)
          clear hm2 hm3 hq HM HQ
          go_wp2
          go_ret
          exact ⟨_, _, rfl, HF.out.1, HF.out.2, by rw [← HQF.out]; exact HBL.out, hbw⟩
  · have k2 : decide (0 < n.shape.length) = false := by simpa using hs
    have hhd : headT n = [226, 138, 130] := by unfold headT; rw [if_neg hs, if_pos (by simpa using k1)]
    have HHD := Lib.hid hhd
    have HW := Lib.hid (fun W (hW : Bld w0.heap.size b l W) hz => bw_str w0.heap.size b l [226, 138, 130] W hW (by rw [HHD.out] at hl; simp only [List.length_append] at hl; simp only [List.length_cons, List.length_nil] at hl ⊢; omega) hz)
    unfold strV at HW
    clear hs hhd hil HI
    by_cases hcap : c = 1
    · subst hcap
      have hnil : (kids.flatten ++ suf).length = 0 := by omega
      rw [hnil]
      clear HD
      go_enter Tryz.func27, Tryz.ntmps27
      go_wp2_with (first
        | (go_at_call 29; refine (HW.out _ (HB.out.below (bl_alloc (Below.refl _ _) _)) (Nat.le_trans hsz (bl_alloc (Below.refl _ _) _).size)).mono ?_; rintro e w2 ⟨rfl, hbld2, hb2, hkk2⟩; have bx2 := hkk2 _ _ _ (by decide) (fun e => hbne e.symm) (Box.new w _ 28); obtain ⟨⟨t4, t5, t6, t7⟩, s4, s5, s6, s7⟩ := bx2.cells; have hbw2 := ((bl_alloc (Below.refl _ _) _).mono hsz).trans hb2)
        | (go_at_call 36; refine (HCN.out _ hbw2).mono ?_; rintro e w3 ⟨rfl, hb3⟩))

      go_loopg [1, 46] kids.length (fun gg s1 i wr => ∃ (i0 m : Nat) (A' : Option Addr) (c' : Nat) (q : List UInt8), i0 ≤ kids.length ∧ gg = kids.length - i0 ∧ i = .int .i64 i0 ∧ s1 = .slice A' m c' ∧ Hid (m = ((kids.drop i0).flatten ++ suf).length ∧ m ≤ c' ∧ Rd lNode w0 ok A' m ((kids.drop i0).flatten ++ suf)) ∧ Hid (Bld w0.heap.size b q wr) ∧ Hid (q = l ++ headT n ++ (kids.take i0).flatMap (kidT f)) ∧ Below w0.heap.size w wr)
      case atStart => exact ⟨0, 0, _, _, _, by omega, by omega, rfl, rfl, ⟨by rw [List.drop_zero]; exact hnil.symm, by omega, by rw [List.drop_zero, List.eq_nil_of_length_eq_zero hnil]; exact Rd.nil _ _ _ _⟩, hbld2.below hb3, (by show _ = _; rw [HHD.out]; simp), hbw2.trans (hb3.mono (Nat.le_trans hsz hbw2.size))⟩
      case round =>
        clear hbld2 hb3 hbw2 hb2
        obtain ⟨i0, m, A', c', q, hi0, rfl, rfl, rfl, HM, HBL, HQ, hbw⟩ := hrel
        by_cases hlt : i0 < kids.length
        · have hk0 := HK.out kids[i0] (List.getElem_mem hlt)
          have hdr : kids.drop i0 = kids[i0] :: kids.drop (i0 + 1) := List.drop_eq_getElem_cons hlt
          have htk : kids.take (i0 + 1) = kids.take i0 ++ [kids[i0]] := List.take_succ_eq_append_getElem hlt
          have hall : kids = kids.take i0 ++ kids[i0] :: kids.drop (i0 + 1) := by rw [← hdr, List.take_append_drop]
          have hlen2 : q.length + (kidT f kids[i0]).length ≤ 140737488355328 := by
            have h1 : (l ++ (headT n ++ kids.flatMap (kidT f))).length ≤ 140737488355328 := by rw [List.length_append]; exact hl
            rw [hall, List.flatMap_append, List.flatMap_cons] at h1
            rw [HQ.out]
            simp only [List.length_append] at h1 ⊢
            omega
          have hmm : m = (kids[i0] ++ ((kids.drop (i0 + 1)).flatten ++ suf)).length ∧ m ≤ c' ∧ Rd lNode w0 ok A' m (kids[i0] ++ ((kids.drop (i0 + 1)).flatten ++ suf)) := by
            have := HM.out
            rw [hdr, List.flatten_cons, List.append_assoc] at this
            exact this
          have hml : m ≤ 1000000000 := by
            have h1 : (kids.flatten ++ suf).length ≤ 1000000000 := hTl
            rw [hmm.1, ← List.append_assoc, ← List.flatten_cons, ← hdr]
            rw [← List.take_append_drop i0 kids, List.flatten_append, List.append_assoc, List.length_append] at h1
            omega
          have hst : Hid (q ++ kidT f kids[i0] = l ++ headT n ++ (kids.take (i0 + 1)).flatMap (kidT f)) := by
            show _ = _
            rw [htk, List.flatMap_append, HQ.out]; simp
          have hcall : Hid (∀ W, Below w0.heap.size w0 W → Bld w0.heap.size b (q ++ [40]) W → Calls Tryz.prog 27 #[.pointer (some ⟨b, 0, none⟩), .slice A' m c'] W fun e w' => ∃ A2 c2 m2, e = .returned (.slice A2 m2 c2) ∧ (m2 = ((kids.drop (i0 + 1)).flatten ++ suf).length ∧ m2 ≤ c2 ∧ Rd lNode w0 ok A2 m2 ((kids.drop (i0 + 1)).flatten ++ suf)) ∧ Bld w0.heap.size b (q ++ [40] ++ textN f kids[i0]) w' ∧ Below w0.heap.size W w') := fun W hW hBW => by
            have := HIH.out kids[i0] ((kids.drop (i0 + 1)).flatten ++ suf) hk0.1 hk0.2.1 hk0.2.2.1 hk0.2.2.2 (by rw [← hmm.1]; exact hml) A' c' (q ++ [40]) W (by rw [← hmm.1]; exact hmm.2.2) (by rw [← hmm.1]; exact hmm.2.1) hW hBW (by
              unfold kidT at hlen2
              simp only [List.length_append, List.length_cons, List.length_nil] at hlen2 ⊢
              omega)
            rw [← hmm.1] at this
            refine this.mono ?_
            rintro e w' ⟨A2, c2, rfl, h1, h2, h3, h4⟩
            exact ⟨A2, c2, _, rfl, ⟨rfl, h1, h2⟩, h3, h4⟩
          have hW1 : Hid (∀ W, Bld w0.heap.size b q W → w0.heap.size ≤ W.heap.size → _) := fun W hW hz => bw_str w0.heap.size b q [40] W hW (by unfold kidT at hlen2; simp only [List.length_append, List.length_cons, List.length_nil] at hlen2 ⊢; omega) hz
          have hW2 : Hid (∀ W, Bld w0.heap.size b (q ++ [40] ++ textN f kids[i0]) W → w0.heap.size ≤ W.heap.size → _) := fun W hW hz => bw_str w0.heap.size b (q ++ [40] ++ textN f kids[i0]) [41] W hW (by unfold kidT at hlen2; simp only [List.length_append, List.length_cons, List.length_nil] at hlen2 ⊢; omega) hz
          have hst2 : Hid (q ++ [40] ++ textN f kids[i0] ++ [41] = l ++ headT n ++ (kids.take (i0 + 1)).flatMap (kidT f)) := by
            show _ = _
            rw [← hst.out]; unfold kidT; simp
          clear hdr htk hall hmm hst hk0 hlen2
          generalize q ++ [40] ++ textN f kids[i0] = q3 at hcall hW2 hst2
          have hbz := Nat.le_trans hsz hbw.size
          unfold strV at hW1 hW2
          go_wp2_with (first
            | (go_at_call 29; have HH := hW1; clear hW1; refine (HH.out _ HBL.out (by have := hbw.size; omega)).mono ?_; rintro e w1 ⟨rfl, hbld1, hb1, _⟩)
            | (go_at_call 27; refine (hcall.out _ ((HB0.out.trans hbw).trans hb1) hbld1).mono ?_; rintro e w2 ⟨A2, c2, m2, rfl, hm2, hbld2, hb2⟩; replace hm2 := Lib.hid hm2)
            | (go_at_call 29; refine (hW2.out _ hbld2 (by have := hb1.size; have := hb2.size; have := hbw.size; omega)).mono ?_; rintro e w3 ⟨rfl, hbld3, hb3, _⟩))
          go_roundg (kids.length - (i0 + 1))
          case measure => omega
          case rel => exact ⟨i0 + 1, m2, A2, c2, _, by omega, rfl, by go_num, rfl, hm2, hbld3, hst2.out, ((hbw.trans hb1).trans hb2).trans hb3⟩
        · have hkn : i0 = kids.length := by omega
          subst hkn
          have hmm := HM.out
          rw [List.drop_length, List.flatten_nil, List.nil_append] at hmm
          obtain ⟨hm1, hm2, hm3⟩ := hmm
          subst hm1
          have hq := HQ.out
          rw [List.take_length] at hq
          have HQF : Hid (q = l ++ (headT n ++ kids.flatMap (kidT f))) := by rw [hq, List.append_assoc]; rfl
          have HF := Lib.hid (And.intro hm2 hm3)
          clear hm2 hm3 hq HM HQ
          go_wp2
          go_ret
          exact ⟨_, _, rfl, HF.out.1, HF.out.2, by rw [← HQF.out]; exact HBL.out, hbw⟩
    · have hc1' : (kids.flatten ++ suf).length ≤ c - 1 := by omega
      obtain ⟨M, hM⟩ : ∃ M, (kids.flatten ++ suf).length = M := ⟨_, rfl⟩
      have HM0 := Lib.hid hM
      rw [hM] at hc1' hc hm hlen ⊢
      clear hM
      go_enter Tryz.func27, Tryz.ntmps27
      go_wp2_with (first
        | (go_at_call 29; refine (HW.out _ (HB.out.below (bl_alloc (Below.refl _ _) _)) (Nat.le_trans hsz (bl_alloc (Below.refl _ _) _).size)).mono ?_; rintro e w2 ⟨rfl, hbld2, hb2, hkk2⟩; have bx2 := hkk2 _ _ _ (by decide) (fun e => hbne e.symm) (Box.new w _ 28); obtain ⟨⟨t4, t5, t6, t7⟩, s4, s5, s6, s7⟩ := bx2.cells; have hbw2 := ((bl_alloc (Below.refl _ _) _).mono hsz).trans hb2)
        | (go_at_call 36; refine (HCN.out _ hbw2).mono ?_; rintro e w3 ⟨rfl, hb3⟩))

      go_loopg [1, 46] kids.length (fun gg s1 i wr => ∃ (i0 m : Nat) (A' : Option Addr) (c' : Nat) (q : List UInt8), i0 ≤ kids.length ∧ gg = kids.length - i0 ∧ i = .int .i64 i0 ∧ s1 = .slice A' m c' ∧ Hid (m = ((kids.drop i0).flatten ++ suf).length ∧ m ≤ c' ∧ Rd lNode w0 ok A' m ((kids.drop i0).flatten ++ suf)) ∧ Hid (Bld w0.heap.size b q wr) ∧ Hid (q = l ++ headT n ++ (kids.take i0).flatMap (kidT f)) ∧ Below w0.heap.size w wr)
      case atStart => exact ⟨0, _, _, _, _, by omega, by omega, rfl, rfl, ⟨by rw [List.drop_zero]; exact HM0.out.symm, by omega, by rw [← HM0.out, List.drop_zero]; exact HD.out⟩, hbld2.below hb3, (by show _ = _; rw [HHD.out]; simp), hbw2.trans (hb3.mono (Nat.le_trans hsz hbw2.size))⟩
      case round =>
        clear hbld2 hb3 hbw2 hb2
        obtain ⟨i0, m, A', c', q, hi0, rfl, rfl, rfl, HM, HBL, HQ, hbw⟩ := hrel
        by_cases hlt : i0 < kids.length
        · have hk0 := HK.out kids[i0] (List.getElem_mem hlt)
          have hdr : kids.drop i0 = kids[i0] :: kids.drop (i0 + 1) := List.drop_eq_getElem_cons hlt
          have htk : kids.take (i0 + 1) = kids.take i0 ++ [kids[i0]] := List.take_succ_eq_append_getElem hlt
          have hall : kids = kids.take i0 ++ kids[i0] :: kids.drop (i0 + 1) := by rw [← hdr, List.take_append_drop]
          have hlen2 : q.length + (kidT f kids[i0]).length ≤ 140737488355328 := by
            have h1 : (l ++ (headT n ++ kids.flatMap (kidT f))).length ≤ 140737488355328 := by rw [List.length_append]; exact hl
            rw [hall, List.flatMap_append, List.flatMap_cons] at h1
            rw [HQ.out]
            simp only [List.length_append] at h1 ⊢
            omega
          have hmm : m = (kids[i0] ++ ((kids.drop (i0 + 1)).flatten ++ suf)).length ∧ m ≤ c' ∧ Rd lNode w0 ok A' m (kids[i0] ++ ((kids.drop (i0 + 1)).flatten ++ suf)) := by
            have := HM.out
            rw [hdr, List.flatten_cons, List.append_assoc] at this
            exact this
          have hml : m ≤ 1000000000 := by
            have h1 : (kids.flatten ++ suf).length ≤ 1000000000 := hTl
            rw [hmm.1, ← List.append_assoc, ← List.flatten_cons, ← hdr]
            rw [← List.take_append_drop i0 kids, List.flatten_append, List.append_assoc, List.length_append] at h1
            omega
          have hst : Hid (q ++ kidT f kids[i0] = l ++ headT n ++ (kids.take (i0 + 1)).flatMap (kidT f)) := by
            show _ = _
            rw [htk, List.flatMap_append, HQ.out]; simp
          have hcall : Hid (∀ W, Below w0.heap.size w0 W → Bld w0.heap.size b (q ++ [40]) W → Calls Tryz.prog 27 #[.pointer (some ⟨b, 0, none⟩), .slice A' m c'] W fun e w' => ∃ A2 c2 m2, e = .returned (.slice A2 m2 c2) ∧ (m2 = ((kids.drop (i0 + 1)).flatten ++ suf).length ∧ m2 ≤ c2 ∧ Rd lNode w0 ok A2 m2 ((kids.drop (i0 + 1)).flatten ++ suf)) ∧ Bld w0.heap.size b (q ++ [40] ++ textN f kids[i0]) w' ∧ Below w0.heap.size W w') := fun W hW hBW => by
            have := HIH.out kids[i0] ((kids.drop (i0 + 1)).flatten ++ suf) hk0.1 hk0.2.1 hk0.2.2.1 hk0.2.2.2 (by rw [← hmm.1]; exact hml) A' c' (q ++ [40]) W (by rw [← hmm.1]; exact hmm.2.2) (by rw [← hmm.1]; exact hmm.2.1) hW hBW (by
              unfold kidT at hlen2
              simp only [List.length_append, List.length_cons, List.length_nil] at hlen2 ⊢
              omega)
            rw [← hmm.1] at this
            refine this.mono ?_
            rintro e w' ⟨A2, c2, rfl, h1, h2, h3, h4⟩
            exact ⟨A2, c2, _, rfl, ⟨rfl, h1, h2⟩, h3, h4⟩
          have hW1 : Hid (∀ W, Bld w0.heap.size b q W → w0.heap.size ≤ W.heap.size → _) := fun W hW hz => bw_str w0.heap.size b q [40] W hW (by unfold kidT at hlen2; simp only [List.length_append, List.length_cons, List.length_nil] at hlen2 ⊢; omega) hz
          have hW2 : Hid (∀ W, Bld w0.heap.size b (q ++ [40] ++ textN f kids[i0]) W → w0.heap.size ≤ W.heap.size → _) := fun W hW hz => bw_str w0.heap.size b (q ++ [40] ++ textN f kids[i0]) [41] W hW (by unfold kidT at hlen2; simp only [List.length_append, List.length_cons, List.length_nil] at hlen2 ⊢; omega) hz
          have hst2 : Hid (q ++ [40] ++ textN f kids[i0] ++ [41] = l ++ headT n ++ (kids.take (i0 + 1)).flatMap (kidT f)) := by
            show _ = _
            rw [← hst.out]; unfold kidT; simp
          clear hdr htk hall hmm hst hk0 hlen2
          generalize q ++ [40] ++ textN f kids[i0] = q3 at hcall hW2 hst2
          have hbz := Nat.le_trans hsz hbw.size
          unfold strV at hW1 hW2
          go_wp2_with (first
            | (go_at_call 29; have HH := hW1; clear hW1; refine (HH.out _ HBL.out (by have := hbw.size; omega)).mono ?_; rintro e w1 ⟨rfl, hbld1, hb1, _⟩)
            | (go_at_call 27; refine (hcall.out _ ((HB0.out.trans hbw).trans hb1) hbld1).mono ?_; rintro e w2 ⟨A2, c2, m2, rfl, hm2, hbld2, hb2⟩; replace hm2 := Lib.hid hm2)
            | (go_at_call 29; refine (hW2.out _ hbld2 (by have := hb1.size; have := hb2.size; have := hbw.size; omega)).mono ?_; rintro e w3 ⟨rfl, hbld3, hb3, _⟩))
          go_roundg (kids.length - (i0 + 1))
          case measure => omega
          case rel => exact ⟨i0 + 1, m2, A2, c2, _, by omega, rfl, by go_num, rfl, hm2, hbld3, hst2.out, ((hbw.trans hb1).trans hb2).trans hb3⟩
        · have hkn : i0 = kids.length := by omega
          subst hkn
          have hmm := HM.out
          rw [List.drop_length, List.flatten_nil, List.nil_append] at hmm
          obtain ⟨hm1, hm2, hm3⟩ := hmm
          subst hm1
          have hq := HQ.out
          rw [List.take_length] at hq
          have HQF : Hid (q = l ++ (headT n ++ kids.flatMap (kidT f))) := by rw [hq, List.append_assoc]; rfl
          have HF := Lib.hid (And.intro hm2 hm3)
          clear hm2 hm3 hq HM HQ
          go_wp2
          go_ret
          exact ⟨_, _, rfl, HF.out.1, HF.out.2, by rw [← HQF.out]; exact HBL.out, hbw⟩
end
end Go.Proofs.T
namespace Go.Proofs.T
open Go.RowKit
theorem write_all (w0 : World) (ok : Nat → Prop) (b : Nat) (hok : ∀ b, ok b → b < w0.heap.size) (hG : Glob w0) : ∀ f, WriteIH f w0 ok b
  | 0 => fun a _ hf hr => by have := ((rightA_iff a).1 hr).1; omega
  | f + 1 => fun a suf hf hr hx hi hl A c l w h hc hb0 hB hll => by
    cases a with
    | nil => have := ((rightA_iff []).1 hr).1; simp at this
    | cons n rest =>
      obtain ⟨bb, o, rfl, _⟩ := h.row (by simp)
      by_cases h5 : n.kind = 5
      · exact write_nest bb o c b f n rest suf ok w0 w l h hok hc hx hi hl (by simp only [List.length_cons] at hf; omega) hr h5 hG hb0 hB hll (write_all w0 ok b hok hG f)
      · obtain ⟨_, rfl⟩ := right_one hr h5
        have htx : textN (f + 1) [n] = headT n ++ valueT n := by rw [textN, if_neg h5]
        rw [htx] at hll ⊢
        by_cases hs : 0 < n.shape.length
        · have hhd : headT n = intsT n.shape ++ [226, 141, 180] := by unfold headT; rw [if_pos hs]
          rw [hhd] at hll ⊢
          exact write_leaf1 bb o c b n suf ok w0 w l h hok hc (hx n (by simp)) (hi n (by simp)) hl h5 hs hG hb0 hB hll
        · have hhd : headT n = [] := by unfold headT; rw [if_neg hs, if_neg h5]
          rw [hhd, List.nil_append] at hll ⊢
          exact write_leaf0 bb o c b n suf ok w0 w l h hok hc (hx n (by simp)) (hi n (by simp)) hl h5 hs hG hb0 hB hll
/-- An array's notation; nothing, if it is not tight. -/
def notT (a : List Node) : List UInt8 := if tightN a = true then textN a.length a else []
set_option maxHeartbeats 2000000 in
theorem text_any (A : Option Addr) (c : Nat) (a : List Node) (ok : Nat → Prop) (w : World) (h : Rd lNode w ok A a.length a) (hc : a.length ≤ c) (hx : NodesOk a) (hin : InOk a) (hlen : a.length ≤ 1000000000) (hG : Glob w) (hll : tightN a = true → (textN a.length a).length ≤ 140737488355328) :
    Calls Tryz.prog 11 #[.slice A a.length c] w fun e w' => e = .returned (strV (notT a)) ∧ Below w.heap.size w w' := by
  have ht := tightRight_any A c a ok w h hc hx hin hlen
  unfold notT
  cases hT : tightN a with
  | false =>
    rw [hT] at ht
    have HT := Lib.hid ht
    clear h hc hx hin hG hll hT ht
    unfold strV
    go_enter Tryz.func11, Tryz.ntmps11
    go_wp2_with (go_at_call 8; refine HT.out.mono ?_; rintro e w1 ⟨rfl, hb1⟩)
    go_ret
    exact ⟨rfl, hb1⟩
  | true =>
    replace hll := hll hT
    rw [hT] at ht
    have HT := Lib.hid ht
    have hr : rightA a = true := by unfold tightN at hT; simp at hT; exact hT.1
    have hW0 : ∀ W, Below w.heap.size w W → Calls Tryz.prog 27 #[.pointer (some ⟨W.heap.size, 0, none⟩), .slice A a.length c] (W.alloc (.cells #[.pointer none, .slice none 0 0] 58)) fun e w' => ∃ v, e = .returned v ∧ Bld W.heap.size W.heap.size (textN a.length a) w' ∧ Below W.heap.size W w' := fun W hW => by
      have h' : Rd lNode W (fun b => ok b ∧ b < W.heap.size) A (a ++ []).length (a ++ []) := by
        rw [List.append_nil]
        exact (h.below (by decide) hW).mono (by decide) fun b hb hlt => ⟨hb, hlt⟩
      have := write_all W (fun b => ok b ∧ b < W.heap.size) W.heap.size (fun b hb => hb.2) (hG.below hW) a.length a [] (Nat.le_refl _) hr hx hin (by rw [List.append_nil]; exact hlen) A c [] _ h' (by rw [List.append_nil]; exact hc) (bl_alloc (Below.refl _ _) _) (Bld.new W) (by simpa using hll)
      rw [List.append_nil] at this
      refine this.mono ?_
      rintro e w' ⟨A', c', rfl, _, _, h1, h2⟩
      exact ⟨_, rfl, h1, (bl_alloc (Below.refl _ _) _).trans h2⟩
    have HW := Lib.hid hW0
    simp only [if_true]
    generalize textN a.length a = t at HW ⊢
    have HS := Lib.hid (fun W W' (hB : Bld (World.heap W).size W.heap.size t W') (hz : W.heap.size ≤ W'.heap.size) => b_str W.heap.size W.heap.size t W' hB hz)
    clear h hc hx hin hG hll hT ht hr hW0
    unfold strV at HS ⊢
    go_enter Tryz.func11, Tryz.ntmps11
    go_wp2_with (first
      | (go_at_call 8; refine HT.out.mono ?_; rintro e w1 ⟨rfl, hb1⟩)
      | (go_at_call 27; refine (HW.out _ hb1).mono ?_; rintro e w2 ⟨v2, rfl, hbld, hb2⟩)
      | (go_at_call 28; refine (HS.out _ _ hbld hb2.size).mono ?_; rintro e w3 ⟨rfl, hb3⟩))
    go_ret
    exact ⟨rfl, bl_trans (hb2.trans hb3) hb1⟩
end Go.Proofs.T
namespace Go.Proofs.T
open Go.RowKit
def isDig (c : UInt8) : Bool := [48, 49, 50, 51, 52, 53, 54, 55, 56, 57, 69].contains c
/-- How far what may be a number goes. -/
def cutP : List UInt8 → Nat
  | [] => 0
  | [c] => if isDig c = true then 1 else 0
  | c :: d :: r => if isDig c = true then cutP (d :: r) + 1 else if c = 194 ∧ d = 175 then cutP r + 2 else 0
theorem ib_ge : ∀ (l : List UInt8) (c : UInt8), decide (0 ≤ Lib.indexByte l c) = l.contains c
  | [], c => by simp [Lib.indexByte]
  | b :: l, c => by
    have ih := ib_ge l c
    have hg := Lib.indexByte_ge l c
    unfold Lib.indexByte
    by_cases h : b = c
    · subst h; simp
    · rw [if_neg (by simpa using h), List.contains_cons, show (c == b) = false by simpa using fun e => h e.symm, Bool.false_or, ← ih]
      split
      · next h2 => simp at h2; simp [h2]
      · next h2 => simp at h2; simp only [decide_eq_decide]; omega
theorem dig_any (x : UInt8) (w : World) : Calls Tryz.prog 111 #[.string ⟨#[48, 49, 50, 51, 52, 53, 54, 55, 56, 57, 69]⟩, .int .u8 (x.toNat : Nat)] w fun e w' => ∃ v, e = .returned (.int .i64 v) ∧ decide (0 ≤ v) = isDig x ∧ w' = w := by
  refine (Tryz.strings_IndexByte ⟨#[48, 49, 50, 51, 52, 53, 54, 55, 56, 57, 69]⟩ (x.toNat : Nat) w).mono ?_
  rintro e w' ⟨rfl, rfl⟩
  exact ⟨_, rfl, by rw [ib_ge]; unfold isDig; simp, rfl⟩
theorem cutP_dig {s : List UInt8} {k : Nat} (h : k < s.length) (hd : isDig s[k] = true) : cutP (s.drop k) = 1 + cutP (s.drop (k + 1)) := by
  rw [List.drop_eq_getElem_cons h]
  cases hr : s.drop (k + 1) with
  | nil => simp [cutP, hd]
  | cons d r => rw [cutP, if_pos hd]; omega
theorem cutP_minus {s : List UInt8} {k : Nat} (h : k + 1 < s.length) (hd : isDig s[k] = false) (h1 : s[k] = 194) (h2 : s[k + 1] = 175) : cutP (s.drop k) = 2 + cutP (s.drop (k + 2)) := by
  rw [List.drop_eq_getElem_cons (by omega : k < s.length), List.drop_eq_getElem_cons h, cutP, if_neg (by rw [hd]; simp), if_pos ⟨h1, h2⟩, show k + 1 + 1 = k + 2 from rfl]; omega
theorem cutP_no {s : List UInt8} {k : Nat} (h : k < s.length) (hd : isDig s[k] = false) (hp : Lib.hasPrefix (s.drop k) [194, 175] = false) : cutP (s.drop k) = 0 := by
  rw [List.drop_eq_getElem_cons h] at hp ⊢
  cases hr : s.drop (k + 1) with
  | nil => simp [cutP, hd]
  | cons d r =>
    rw [hr] at hp
    rw [cutP, if_neg (by rw [hd]; simp), if_neg]
    rintro ⟨h1, h2⟩
    rw [h1, h2] at hp
    simp [Lib.hasPrefix, List.isPrefixOf] at hp
theorem bx (s : List UInt8) (k n : Nat) (h : k ≤ n) (hn : n = s.length) : (⟨s.toArray⟩ : ByteArray).extract k n = ⟨(s.drop k).toArray⟩ := by
  subst hn
  apply ByteArray.ext
  simp [List.take_of_length_le]
theorem bt (s : List UInt8) (k : Nat) : (⟨s.toArray⟩ : ByteArray).extract 0 k = ⟨(s.take k).toArray⟩ := by
  apply ByteArray.ext
  simp
set_option maxHeartbeats 4000000 in
set_option maxRecDepth 100000 in
theorem cut_any (s : List UInt8) (w : World) (hlen : s.length ≤ 1000000000) : Calls Tryz.prog 96 #[strV s] w fun e w' => e = .returned (.tuple #[strV (s.take (cutP s)), strV (s.drop (cutP s))]) ∧ Below w.heap.size w w' := by
  unfold strV
  go_enter Tryz.func96, Tryz.ntmps96
  go_wp2
  go_loopg [4] s.length (fun gg i wr => ∃ k : Nat, k ≤ s.length ∧ gg = s.length - k ∧ i = .int .i64 k ∧ Hid (cutP s = k + cutP (s.drop k)) ∧ w = wr)
  case atStart => exact ⟨0, by omega, by omega, rfl, by simp [Hid], rfl⟩
  case round =>
    obtain ⟨k, hk, rfl, rfl, hp, rfl⟩ := hrel
    by_cases hlt : k < s.length
    · have HDG := Lib.hid (dig_any s[k] w)
      have h1 := cutP_dig hlt
      have h3 := cutP_no hlt
      cases hd : isDig s[k] with
      | true =>
        rw [hd] at HDG
        have hst : Hid (cutP s = (k + 1) + cutP (s.drop (k + 1))) := by rw [hp.out, h1 hd]; show _ = _; omega
        clear h1 h3 hd
        go_wp2_with (go_at_call 111; refine HDG.out.mono ?_; rintro e w2 ⟨v, rfl, hv, rfl⟩)
        go_roundg (s.length - (k + 1))
        case measure => omega
        case rel => exact ⟨k + 1, by omega, rfl, by go_num, hst, rfl⟩
      | false =>
        rw [hd] at HDG
        have hpre := Tryz.strings_HasPrefix ⟨(s.drop k).toArray⟩ ⟨#[194, 175]⟩ w
        have hee := bx s k s.length hk rfl
        simp only [List.toList_toArray] at hpre
        cases hP : Lib.hasPrefix (s.drop k) [194, 175] with
        | true =>
          rw [hP] at hpre
          have HP := Lib.hid hpre
          have hpp : k + 1 < s.length ∧ cutP s = (k + 2) + cutP (s.drop (k + 2)) := by
            rw [List.drop_eq_getElem_cons hlt] at hP
            cases hr : s.drop (k + 1) with
            | nil => rw [hr] at hP; simp [Lib.hasPrefix, List.isPrefixOf] at hP
            | cons d r =>
              have hl : k + 1 < s.length := by
                have := congrArg List.length hr
                rw [List.length_drop, List.length_cons] at this; omega
              rw [hr] at hP
              simp [Lib.hasPrefix, List.isPrefixOf] at hP
              have hd2 : s[k + 1] = d := by
                rw [List.drop_eq_getElem_cons hl] at hr
                injection hr
              refine ⟨hl, ?_⟩
              rw [hp.out, cutP_minus hl hd hP.1.symm (by rw [hd2]; exact hP.2.symm)]
              omega
          have hpl := hpp.1
          have hst : Hid (cutP s = (k + 2) + cutP (s.drop (k + 2))) := hpp.2
          clear h1 h3 hpre hpp hd
          go_wp2_with (first
            | (go_at_call 111; refine HDG.out.mono ?_; rintro e w2 ⟨v, rfl, hv, rfl⟩)
            | (go_at_call 80; refine HP.out.mono ?_; rintro e w2 ⟨rfl, rfl⟩))
          go_roundg (s.length - (k + 2))
          case measure => omega
          case rel => exact ⟨k + 2, by omega, rfl, by go_num, hst, rfl⟩
        | false =>
          rw [hP] at hpre
          have HP := Lib.hid hpre
          have hfin : Hid (cutP s = k) := by rw [hp.out, h3 hd hP]; rfl
          have htt := bt s k
          clear h1 h3 hpre hd
          go_wp2_with (first
            | (go_at_call 111; refine HDG.out.mono ?_; rintro e w2 ⟨v, rfl, hv, rfl⟩)
            | (go_at_call 80; refine HP.out.mono ?_; rintro e w2 ⟨rfl, rfl⟩))
          have hb' : Below w2.heap.size w2 w2.drew := bl_drew (Below.refl _ _)
          go_region_held3 (fun w' => Below w2.heap.size w2 w') (with_reducible assumption) (fail)
          go_wp2
          go_ret2
          exact ⟨by rw [hfin.out]; rfl, hb'⟩
    · have hkn : k = s.length := by omega
      subst hkn
      have hfin : Hid (cutP s = s.length) := by rw [hp.out, List.drop_length]; rfl
      have h1 : Hid (s.take (cutP s) = s) := by rw [hfin.out, List.take_length]; rfl
      have h2 : Hid (s.drop (cutP s) = []) := by rw [hfin.out, List.drop_length]; rfl
      go_wp2
      go_ret2
      exact ⟨by rw [h1.out, h2.out]; rfl, Below.refl _ _⟩
end Go.Proofs.T
namespace Go.Proofs.T
open Go.RowKit
/-- What Atoi gives, and whether it tells no error. -/
def atoiV (s : List UInt8) : Int := match Lib.atoiAll s with
  | .ok v => v
  | .range => Lib.atoiSat s
  | _ => 0
def atoiOk (s : List UInt8) : Bool := match Lib.atoiAll s with
  | .ok _ => true
  | _ => false
theorem atoiV_bd (s : List UInt8) : I64 (atoiV s) := by
  unfold atoiV I64
  split
  · next v h => exact Lib.atoiAll_bounds h
  · exact Lib.atoiSat_bounds s
  · omega
theorem below_bytes (w : World) (e : TypeId) (s : ByteArray) : Below w.heap.size w (Lib.bytesWorld w e s) :=
  ⟨rfl, rfl, rfl, by rw [Lib.bytesWorld_size]; omega, fun j hj => Lib.bytesWorld_at_old w e s j hj⟩
theorem atoi_any (s : List UInt8) (w : World) (hG : Glob w) (hl : s.length ≤ 1000000001) :
    Calls Tryz.prog 113 #[strV s] w fun e w' => ∃ ev, e = .returned (.tuple #[.int .i64 (atoiV s), ev]) ∧ (atoiOk s = true ∧ ev = .nilIface ∨ atoiOk s = false ∧ ∃ t p, ev = .iface t p) ∧ Below w.heap.size w w' := by
  have hsz : (⟨s.toArray⟩ : ByteArray).size = s.length := by simp [ByteArray.size]
  unfold atoiV atoiOk strV
  cases h : Lib.atoiAll s with
  | ok v =>
    refine (Tryz.strconv_Atoi_ok ⟨s.toArray⟩ (by rw [hsz]; omega) v h w).mono ?_
    rintro e w' ⟨rfl, hw⟩
    refine ⟨_, rfl, .inl ⟨rfl, rfl⟩, ?_⟩
    rcases hw with rfl | ⟨t, rfl⟩
    · exact Below.refl _ _
    · exact below_bytes w 5 t
  | range =>
    obtain ⟨tp, p, hv⟩ := hG.er
    refine (Tryz.strconv_Atoi_range_var ⟨s.toArray⟩ (by rw [hsz]; omega) h tp p w hv).mono ?_
    rintro e w' ⟨N, rfl, _, _, hb⟩
    exact ⟨_, rfl, .inr ⟨rfl, _, _, rfl⟩, hb⟩
  | _ =>
    obtain ⟨tp, p, hv⟩ := hG.es
    refine (Tryz.strconv_Atoi_syntax_var ⟨s.toArray⟩ (by rw [hsz]; omega) h tp p w hv).mono ?_
    rintro e w' ⟨N, rfl, _, _, hb⟩
    exact ⟨_, rfl, .inr ⟨rfl, _, _, rfl⟩, hb⟩
end Go.Proofs.T
namespace Go.Proofs.T
open Go.RowKit
/-- decimal.read. -/
def dreadV (s : List UInt8) : Int := if Lib.hasPrefix s [194, 175] = true then atoiV (45 :: s.drop 2) else atoiV s
theorem dreadV_bd (s : List UInt8) : I64 (dreadV s) := by unfold dreadV; split <;> exact atoiV_bd _
set_option maxHeartbeats 400000 in
theorem dread_any (s : List UInt8) (w : World) (hG : Glob w) (hl : s.length ≤ 1000000000) : Calls Tryz.prog 124 #[strV s] w fun e w' => e = .returned (.int .i64 (dreadV s)) ∧ Below w.heap.size w w' := by
  have hc := Tryz.strings_CutPrefix ⟨s.toArray⟩ ⟨#[194, 175]⟩ w
  simp only [List.toList_toArray] at hc
  unfold dreadV
  cases hp : Lib.hasPrefix s [194, 175] with
  | true =>
    have ht : Lib.trimPrefix s [194, 175] = s.drop 2 := by unfold Lib.trimPrefix; rw [if_pos hp]; rfl
    rw [hp, ht] at hc
    have HC := Lib.hid hc
    have HA := Lib.hid (atoi_any (45 :: s.drop 2) w hG (by rw [List.length_cons, List.length_drop]; omega))
    simp only [if_true]
    generalize atoiV (45 :: s.drop 2) = v at HA ⊢
    have hdl : (s.drop 2).length ≤ 1000000000 := by rw [List.length_drop]; omega
    generalize s.drop 2 = t at HC HA hdl
    have k1 : ¬ 9223372036854775807 < 1 + t.length := by omega
    unfold strV at HA ⊢
    rw [show (45 :: t) = [45] ++ t from rfl, ← bcat] at HA
    clear hc hG hp ht
    go_enter Tryz.func124, Tryz.ntmps124
    go_wp2_with (first
      | (go_at_call 78; refine HC.out.mono ?_; rintro e w2 ⟨rfl, rfl⟩)
      | (go_at_call 113; refine HA.out.mono ?_; rintro e w3 ⟨ev, rfl, _, hb⟩))
    go_ret
    exact ⟨rfl, hb⟩
  | false =>
    have ht : Lib.trimPrefix s [194, 175] = s := by unfold Lib.trimPrefix; rw [if_neg (by rw [hp]; simp)]
    rw [hp, ht] at hc
    have HC := Lib.hid hc
    have HA := Lib.hid (atoi_any s w hG (by omega))
    simp only [Bool.false_eq_true, if_false]
    generalize atoiV s = v at HA ⊢
    unfold strV at HA ⊢
    clear hc hG hp ht
    go_enter Tryz.func124, Tryz.ntmps124
    go_wp2_with (first
      | (go_at_call 78; refine HC.out.mono ?_; rintro e w2 ⟨rfl, rfl⟩)
      | (go_at_call 113; refine HA.out.mono ?_; rintro e w3 ⟨ev, rfl, _, hb⟩))
    go_ret
    exact ⟨rfl, hb⟩
end Go.Proofs.T
namespace Go.Proofs.T
open Go.RowKit
def dcutD (s : List UInt8) : Dec := ⟨dreadV (Lib.cut s [69]).1, dreadV (Lib.cut s [69]).2.1⟩
def dparseN (s : List UInt8) : Dec × Bool := if s = [] then (⟨0, 0⟩, false) else if decT (dcutD s) = s then (dcutD s, true) else (⟨0, 0⟩, false)
theorem cut_len (s : List UInt8) : (Lib.cut s [69]).1.length ≤ s.length ∧ (Lib.cut s [69]).2.1.length ≤ s.length := by
  unfold Lib.cut
  split
  · simp only [List.length_take, List.length_drop]; omega
  · simp
set_option maxHeartbeats 2000000 in
theorem dparse_any (s : List UInt8) (w : World) (hG : Glob w) (hl : s.length ≤ 1000000000) : Calls Tryz.prog 112 #[strV s] w fun e w' => e = .returned (.tuple #[decW (dparseN s).1, .bool (dparseN s).2]) ∧ Below w.heap.size w w' := by
  have hcut := fun W (hW : Below w.heap.size w W) => Tryz.strings_Cut ⟨s.toArray⟩ ⟨#[69]⟩ (hG.below hW).mx.choose W (by simp [ByteArray.size]; omega) (hG.below hW).mx.choose_spec
  simp only [List.toList_toArray] at hcut
  have HC := Lib.hid hcut
  have hlen := cut_len s
  have HR := Lib.hid (fun t (ht : t.length ≤ 1000000000) W (hW : Below w.heap.size w W) => dread_any t W (hG.below hW) ht)
  have HT := Lib.hid (fun d (hd : DecOk d) W (hW : Below w.heap.size w W) => dtext_any d hd W (hG.below hW))
  unfold dparseN dcutD
  generalize (Lib.cut s [69]).1 = a at *
  generalize hz : (Lib.cut s [69]).2 = z at *
  obtain ⟨b, q⟩ := z
  simp only at HC hlen ⊢
  have hok : Hid (DecOk ⟨dreadV a, dreadV b⟩) := ⟨dreadV_bd a, dreadV_bd b⟩
  have ha : a.length ≤ 1000000000 := by omega
  have hb : b.length ≤ 1000000000 := by omega
  clear hcut hG hz
  generalize hd : (⟨dreadV a, dreadV b⟩ : Dec) = d at hok ⊢
  have hm1 : dreadV a = d.man := by rw [← hd]
  have hm2 : dreadV b = d.exp := by rw [← hd]
  have HRA := Lib.hid (fun W hW => HR.out a ha W hW)
  have HRB := Lib.hid (fun W hW => HR.out b hb W hW)
  rw [hm1] at HRA
  rw [hm2] at HRB
  have HTD := Lib.hid (fun W hW => HT.out d hok.out W hW)
  clear hd hm1 hm2 HR HT
  generalize decT d = t at HTD ⊢
  unfold decW strV at *
  by_cases hs0 : s = []
  · subst hs0
    go_enter Tryz.func112, Tryz.ntmps112
    go_wp2_with (first
      | (go_at_call 123; refine (HC.out _ (bl_alloc (Below.refl _ _) _)).mono ?_; rintro e w1 ⟨rfl, k, rfl⟩; have hbk := bl_drewN (bl_alloc (Below.refl w.heap.size w) (Obj.cells #[.int .i64 0, .int .i64 0] 39)) k; have bxk : Box _ w.heap.size #[.int .i64 0, .int .i64 0] 39 := (Box.new w _ 39).below (bl_drewN (Below.refl _ _) k))
      | (go_at_call 124; have HH := HRA; clear HRA; refine (HH.out _ hbk).mono ?_; rintro e w2 ⟨rfl, hb2⟩; have hbk2 := bl_trans hb2 hbk; have bx2 := bxk.below hb2)
      | (go_at_call 124; refine (HRB.out _ hbk2).mono ?_; rintro e w3 ⟨rfl, hb3⟩; have hbk3 := bl_trans hb3 hbk2; have bx3 := bx2.below hb3; have z3 := bx3.lt; obtain ⟨t0, t1⟩ : _ ∧ _ := ⟨bx3.cell 0, bx3.cell 1⟩; obtain ⟨f0, f1⟩ : _ ∧ _ := ⟨bx3.frozen 0, bx3.frozen 1⟩)
      | (go_at_call 43; refine (HTD.out _ (bl_alloc hbk3 _)).mono ?_; rintro e w4 ⟨rfl, hb4⟩; have bx4 := (bx3.alloc _).below hb4; have z4 := bx4.lt; obtain ⟨t2, t3⟩ : _ ∧ _ := ⟨bx4.cell 0, bx4.cell 1⟩; obtain ⟨f2, f3⟩ : _ ∧ _ := ⟨bx4.frozen 0, bx4.frozen 1⟩; obtain ⟨hc4, hf4⟩ := bcell hb4))
    exact bodyPost_ret (v := .tuple #[.agg #[.int .i64 0, .int .i64 0], .bool false]) (by simp (maxDischargeDepth := 6) [results, Tryz.results112, go_sem, t0, t1, z3]) rfl ⟨rfl, bl_alloc (bl_set (bl_set hbk3 (by simp) _) (by simp) _) _⟩
  · rw [if_neg hs0]
    by_cases ht : t = s
    · subst ht
      have k1 : (t == []) = false := by simpa using hs0
      go_enter Tryz.func112, Tryz.ntmps112
      go_wp2_with (first
        | (go_at_call 123; refine (HC.out _ (bl_alloc (Below.refl _ _) _)).mono ?_; rintro e w1 ⟨rfl, k, rfl⟩; have hbk := bl_drewN (bl_alloc (Below.refl w.heap.size w) (Obj.cells #[.int .i64 0, .int .i64 0] 39)) k; have bxk : Box _ w.heap.size #[.int .i64 0, .int .i64 0] 39 := (Box.new w _ 39).below (bl_drewN (Below.refl _ _) k))
        | (go_at_call 124; have HH := HRA; clear HRA; refine (HH.out _ hbk).mono ?_; rintro e w2 ⟨rfl, hb2⟩; have hbk2 := bl_trans hb2 hbk; have bx2 := bxk.below hb2)
        | (go_at_call 124; refine (HRB.out _ hbk2).mono ?_; rintro e w3 ⟨rfl, hb3⟩; have hbk3 := bl_trans hb3 hbk2; have bx3 := bx2.below hb3; have z3 := bx3.lt; obtain ⟨t0, t1⟩ : _ ∧ _ := ⟨bx3.cell 0, bx3.cell 1⟩; obtain ⟨f0, f1⟩ : _ ∧ _ := ⟨bx3.frozen 0, bx3.frozen 1⟩)
        | (go_at_call 43; refine (HTD.out _ (bl_alloc hbk3 _)).mono ?_; rintro e w4 ⟨rfl, hb4⟩; have bx4 := (bx3.alloc _).below hb4; have z4 := bx4.lt; obtain ⟨t2, t3⟩ : _ ∧ _ := ⟨bx4.cell 0, bx4.cell 1⟩; obtain ⟨f2, f3⟩ : _ ∧ _ := ⟨bx4.frozen 0, bx4.frozen 1⟩; obtain ⟨hc4, hf4⟩ := bcell hb4))
      exact bodyPost_ret (v := .tuple #[.agg #[.int .i64 d.man, .int .i64 d.exp], .bool true]) (by simp (maxDischargeDepth := 6) [results, Tryz.results112, go_sem, t2, t3, z4]) rfl ⟨by simp, bl_set (bl_set (bl_trans hb4 (bl_alloc hbk3 _)) (by simp) _) (by simp) _⟩
    · rw [if_neg ht]
      have k1 : (s == []) = false := by simpa using hs0
      have k2 : (t == s) = false := by simpa using ht
      have k3 : (t != s) = true := by simp [bne, k2]
      clear ht hs0
      go_enter Tryz.func112, Tryz.ntmps112
      go_wp2_with (first
        | (go_at_call 123; refine (HC.out _ (bl_alloc (Below.refl _ _) _)).mono ?_; rintro e w1 ⟨rfl, k, rfl⟩; have hbk := bl_drewN (bl_alloc (Below.refl w.heap.size w) (Obj.cells #[.int .i64 0, .int .i64 0] 39)) k; have bxk : Box _ w.heap.size #[.int .i64 0, .int .i64 0] 39 := (Box.new w _ 39).below (bl_drewN (Below.refl _ _) k))
        | (go_at_call 124; have HH := HRA; clear HRA; refine (HH.out _ hbk).mono ?_; rintro e w2 ⟨rfl, hb2⟩; have hbk2 := bl_trans hb2 hbk; have bx2 := bxk.below hb2)
        | (go_at_call 124; refine (HRB.out _ hbk2).mono ?_; rintro e w3 ⟨rfl, hb3⟩; have hbk3 := bl_trans hb3 hbk2; have bx3 := bx2.below hb3; have z3 := bx3.lt; obtain ⟨t0, t1⟩ : _ ∧ _ := ⟨bx3.cell 0, bx3.cell 1⟩; obtain ⟨f0, f1⟩ : _ ∧ _ := ⟨bx3.frozen 0, bx3.frozen 1⟩)
        | (go_at_call 43; refine (HTD.out _ (bl_alloc hbk3 _)).mono ?_; rintro e w4 ⟨rfl, hb4⟩; have bx4 := (bx3.alloc _).below hb4; have z4 := bx4.lt; obtain ⟨t2, t3⟩ : _ ∧ _ := ⟨bx4.cell 0, bx4.cell 1⟩; obtain ⟨f2, f3⟩ : _ ∧ _ := ⟨bx4.frozen 0, bx4.frozen 1⟩; obtain ⟨hc4, hf4⟩ := bcell hb4))
      exact bodyPost_ret (v := .tuple #[.agg #[.int .i64 0, .int .i64 0], .bool false]) (by simp (maxDischargeDepth := 6) [results, Tryz.results112, go_sem, t2, t3, z4]) rfl ⟨rfl, bl_set (bl_set (bl_trans hb4 (bl_alloc hbk3 _)) (by simp) _) (by simp) _⟩
end Go.Proofs.T
namespace Go.Proofs.T
open Go.RowKit
/-- number.read. -/
def numReadS (s : List UInt8) : List UInt8 := Lib.replace s [194, 175] [45] 1
def numReadN (s : List UInt8) : Dec × Bool :=
  if (dparseN s).2 = true then ((dparseN s).1, true) else (ofN (atoiV (numReadS s)), atoiOk (numReadS s) && (numT (atoiV (numReadS s)) == s))
theorem replaceK_len1 (s : List UInt8) : (Lib.replaceK [194, 175] [45] 1 s).length ≤ s.length + 1 := by
  have hg := Lib.index_ge s [194, 175]
  by_cases h : Lib.index s [194, 175] = -1
  · simp [Lib.replaceK, h]
  · have hi : Lib.index s [194, 175] = ((Lib.index s [194, 175]).toNat : Int) := by omega
    rw [Lib.replaceK_hit _ _ _ _ _ hi]
    simp only [Lib.replaceK, List.length_append, List.length_take, List.length_drop, List.length_cons, List.length_nil]
    omega
theorem numReadS_len (s : List UInt8) : (numReadS s).length ≤ s.length + 1 := by
  unfold numReadS Lib.replace
  rw [if_neg (by decide)]
  have : Lib.replaceNum s [194, 175] 1 = 0 ∨ Lib.replaceNum s [194, 175] 1 = 1 := by
    unfold Lib.replaceNum
    split
    · next h => have : Lib.count s [194, 175] < 1 := by omega
                omega
    · exact .inr rfl
  rcases this with h | h <;> rw [h]
  · simp [Lib.replaceK]
  · exact replaceK_len1 s
theorem replS_any (s : List UInt8) (w : World) (hG : Glob w) (hl : s.length ≤ 999999999) : Calls Tryz.prog 51 #[strV s, .string ⟨#[194, 175]⟩, .string ⟨#[45]⟩, .int .i64 1] w fun e w' => e = .returned (strV (numReadS s)) ∧ Below w.heap.size w w' := by
  obtain ⟨m, hm⟩ := hG.mx
  have hs : (⟨s.toArray⟩ : ByteArray).size = s.length := by simp [ByteArray.size]
  have hc : Lib.countB ⟨s.toArray⟩ ⟨#[194, 175]⟩ ≤ s.length + 1 := Lib.count_le s [194, 175]
  exact Tryz.strings_Replace ⟨s.toArray⟩ ⟨#[194, 175]⟩ ⟨#[45]⟩ 1 m w (by rw [hs]; omega) hm (by decide) (by rw [hs]; show _ + Lib.countB ⟨s.toArray⟩ ⟨#[194, 175]⟩ * 1 ≤ _; omega)
theorem u62 : Tryz.prog.underlying 62 = some (.interface (Tryz.prog.methodsAt 62)) := by kernel_rfl
set_option maxHeartbeats 2000000 in
theorem numRead_any (s : List UInt8) (w : World) (hG : Glob w) (hl : s.length ≤ 999999999) : Calls Tryz.prog 97 #[strV s] w fun e w' => e = .returned (.tuple #[decW (numReadN s).1, .bool (numReadN s).2]) ∧ Below w.heap.size w w' := by
  have HD := Lib.hid (fun W (hW : Below w.heap.size w W) => dparse_any s W (hG.below hW) (by omega))
  unfold numReadN
  generalize dparseN s = z at *
  obtain ⟨d, q⟩ := z
  cases q with
  | true =>
    simp only [if_true] at HD ⊢
    unfold decW strV at *
    clear hG hl
    go_enter Tryz.func97, Tryz.ntmps97
    go_wp2_with (go_at_call 112; refine (HD.out _ (bl_alloc (Below.refl _ _) _)).mono ?_; rintro e w1 ⟨rfl, hb1⟩; have bx1 := (Box.new w _ 39).below hb1; have z1 := bx1.lt; obtain ⟨t0, t1⟩ : _ ∧ _ := ⟨bx1.cell 0, bx1.cell 1⟩; obtain ⟨f0, f1⟩ : _ ∧ _ := ⟨bx1.frozen 0, bx1.frozen 1⟩)
    exact bodyPost_ret (v := .tuple #[.agg #[.int .i64 d.man, .int .i64 d.exp], .bool true]) (by simp (maxDischargeDepth := 6) [results, Tryz.results97, go_sem, t0, t1, z1]) rfl ⟨rfl, bl_alloc (bl_set (bl_set (bl_trans hb1 (bl_alloc (Below.refl _ _) _)) (by simp) _) (by simp) _) _⟩
  | false =>
    simp only [Bool.false_eq_true, if_false] at HD ⊢
    have HR := Lib.hid (fun W (hW : Below w.heap.size w W) => replS_any s W (hG.below hW) hl)
    have hrl := numReadS_len s
    have HA := Lib.hid (fun W (hW : Below w.heap.size w W) => atoi_any (numReadS s) W (hG.below hW) (by omega))
    generalize numReadS s = r at HR HA ⊢
    have hv := atoiV_bd r
    have HO := Lib.hid (fun W => of_any (atoiV r) hv W)
    have HN := Lib.hid (fun W (hW : Below w.heap.size w W) => number_any (atoiV r) hv W (hG.below hW))
    unfold ofN
    generalize atoiV r = v at HO HN HA ⊢
    generalize (normD v 0).1 = n1 at HO ⊢
    generalize (normD v 0).2.1 = n2 at HO ⊢
    generalize numT v = t at HN ⊢
    generalize atoiOk r = ok at HA ⊢
    unfold decW strV at *
    clear hG hl hrl hv
    cases ok with
    | false =>
      go_enter Tryz.func97, Tryz.ntmps97
      go_wp2_with (first
        | (go_at_call 112; refine (HD.out _ (bl_alloc (Below.refl _ _) _)).mono ?_; rintro e w1 ⟨rfl, hb1⟩; have bx1 := (Box.new w _ 39).below hb1; have z1 := bx1.lt; have hb1' := bl_trans hb1 (bl_alloc (Below.refl _ _) _))
        | (go_at_call 51; refine (HR.out _ (bl_alloc hb1' _)).mono ?_; rintro e w2 ⟨rfl, hb2⟩; have bx2 := (bx1.alloc _).below hb2; have hb2' := bl_trans hb2 (bl_alloc hb1' _))
        | (go_at_call 113; refine (HA.out _ hb2').mono ?_; rintro e w3 ⟨ev, rfl, hev, hb3⟩; have bx3 := bx2.below hb3; have hb3' := bl_trans hb3 hb2'; obtain ⟨tt, pp, rfl⟩ : ∃ t p, ev = .iface t p := (by simpa using hev); clear hev))
      have hE := fun w => run_eql_held_nil (P := Tryz.prog) w 62 tt pp u62
      first | go_region_with (first
          | (go_at_call 15; refine (HO.out _).mono ?_; rintro e wA ⟨rfl, hbA⟩; have hbA' := bl_trans hbA (bl_drew hb3'); have bxA := Box.below (Box.drew bx3) hbA; have zA := bxA.lt; obtain ⟨f0, f1⟩ : _ ∧ _ := ⟨bxA.frozen 0, bxA.frozen 1⟩; obtain ⟨t0, t1⟩ : _ ∧ _ := ⟨bxA.cell 0, bxA.cell 1⟩)) | fail
      all_goals
        go_wp2
        exact bodyPost_ret (v := .tuple #[.agg #[.int .i64 n1, .int .i64 n2], .bool false]) (by simp (maxDischargeDepth := 6) [results, Tryz.results97, go_sem, t0, t1, zA]) rfl ⟨rfl, bl_set (bl_set hbA' (by simp) _) (by simp) _⟩
    | true =>
      have go2 : ∀ q : Bool, (t == s) = q → Calls Tryz.prog 97 #[.string ⟨s.toArray⟩] w fun e w' => e = .returned (.tuple #[.agg #[.int .i64 n1, .int .i64 n2], .bool (true && q)]) ∧ Below w.heap.size w w' := fun q hq => by
        go_enter Tryz.func97, Tryz.ntmps97
        go_wp2_with (first
          | (go_at_call 112; refine (HD.out _ (bl_alloc (Below.refl _ _) _)).mono ?_; rintro e w1 ⟨rfl, hb1⟩; have bx1 := (Box.new w _ 39).below hb1; have z1 := bx1.lt; have hb1' := bl_trans hb1 (bl_alloc (Below.refl _ _) _))
          | (go_at_call 51; refine (HR.out _ (bl_alloc hb1' _)).mono ?_; rintro e w2 ⟨rfl, hb2⟩; have bx2 := (bx1.alloc _).below hb2; have hb2' := bl_trans hb2 (bl_alloc hb1' _))
          | (go_at_call 113; refine (HA.out _ hb2').mono ?_; rintro e w3 ⟨ev, rfl, hev, hb3⟩; have bx3 := bx2.below hb3; have hb3' := bl_trans hb3 hb2'; obtain rfl : ev = .nilIface := (by simpa using hev); clear hev))
        have hE := fun w => run_eql_nil_nil (P := Tryz.prog) w 62 u62
        first | go_region_with (first
            | (go_at_call 15; refine (HO.out _).mono ?_; rintro e wA ⟨rfl, hbA⟩; have hbA' := bl_trans hbA (bl_drew hb3'); have bxA := Box.below (Box.drew bx3) hbA)
            | (go_at_call 25; refine (HN.out _ hbA').mono ?_; rintro e wB ⟨rfl, hbB⟩; have hbB' := bl_trans hbB hbA'; have bxB := bxA.below hbB; have zA := bxB.lt; obtain ⟨f0, f1⟩ : _ ∧ _ := ⟨bxB.frozen 0, bxB.frozen 1⟩; obtain ⟨t0, t1⟩ : _ ∧ _ := ⟨bxB.cell 0, bxB.cell 1⟩)) | fail
        all_goals
          go_wp2
          exact bodyPost_ret (v := .tuple #[.agg #[.int .i64 n1, .int .i64 n2], .bool q]) (by simp (maxDischargeDepth := 6) [results, Tryz.results97, go_sem, t0, t1, zA, hq]) rfl ⟨by simp, bl_set (bl_set hbB' (by simp) _) (by simp) _⟩
      exact go2 _ rfl
end Go.Proofs.T
namespace Go.Proofs.T
open Go.RowKit
/-! ### The reading side, plain -/
structure PS where
  left : List UInt8
  ok : Bool
def skipP (p : PS) (t : List UInt8) : Bool × PS := if Lib.hasPrefix p.left t = true then (true, ⟨p.left.drop t.length, p.ok⟩) else (false, p)
/-- number.Read: n rounds at most. -/
def readNs : Nat → List UInt8 → List Dec → List Dec × List UInt8 × Bool
  | 0, _, _ => ([], [], false)
  | f + 1, s, acc =>
    if (numReadN (s.take (cutP s))).2 = true then
      if Lib.hasPrefix (s.drop (cutP s)) [32] = true ∧ 0 < cutP ((s.drop (cutP s)).drop 1) then readNs f ((s.drop (cutP s)).drop 1) (acc ++ [(numReadN (s.take (cutP s))).1])
      else (acc ++ [(numReadN (s.take (cutP s))).1], s.drop (cutP s), true)
    else ([], [], false)
def readN (s : List UInt8) : List Dec × List UInt8 × Bool := readNs (s.length + 1) s []
/-- quote.ends. -/
def endsL : List UInt8 → Option Nat
  | [] => none
  | [c] => if c = 39 then some 0 else none
  | c :: d :: r => if c = 39 then (if d = 39 then (endsL r).map (· + 2) else some 0) else (endsL (d :: r)).map (· + 1)
/-- What a range over a text meets. -/
def runesL : Nat → List UInt8 → List Int
  | 0, _ => []
  | f + 1, s => if s = [] then [] else ((Lib.decodeL s).1 : Int) :: runesL f (s.drop (Lib.decodeL s).2)
def quoteReadN (s : List UInt8) : List Int × List UInt8 × Bool :=
  if Lib.hasPrefix s [39] = true then
    match endsL (s.drop 1) with
    | none => ([], [], false)
    | some e => if Lib.validD ((s.drop 1).take e) = true then (runesL (Lib.replaceAll ((s.drop 1).take e) [39, 39] [39]).length (Lib.replaceAll ((s.drop 1).take e) [39, 39] [39]), (s.drop 1).drop (e + 1), true) else ([], [], false)
  else ([], [], false)
def numbersP (p : PS) : List Dec × PS := ((readN p.left).1, ⟨(readN p.left).2.1, p.ok && (readN p.left).2.2⟩)
def skipIf (b : Bool) (p : PS) (t : List UInt8) : PS := if b = true then ⟨(skipP p t).2.left, (skipP p t).1⟩ else ⟨p.left, false⟩
def kidsP (arr : PS → List Node × PS) (go : Bool) : Nat → PS → List Node × PS
  | 0, p => ([], p)
  | k + 1, p =>
    if p.ok = true then
      if (skipIf go p [40]).ok = true then
        ((arr (skipIf go p [40])).1 ++ (kidsP arr go k (skipIf (arr (skipIf go p [40])).2.ok (arr (skipIf go p [40])).2 [41])).1,
          (kidsP arr go k (skipIf (arr (skipIf go p [40])).2.ok (arr (skipIf go p [40])).2 [41])).2)
      else ([], skipIf go p [40])
    else ([], p)
def itemsP (kids : Nat → PS → List Node × PS) (s : List Int) (p : PS) : List Node × PS :=
  if (p.ok && (countS s).2) = true then
    if Lib.hasPrefix p.left [39] = true then ([⟨3, s, (quoteReadN p.left).1, []⟩], ⟨(quoteReadN p.left).2.1, (quoteReadN p.left).2.2 && (((quoteReadN p.left).1.length : Int) == (countS s).1)⟩)
    else if Lib.hasPrefix p.left [40] = true then (⟨5, s, [], []⟩ :: (kids (countS s).1.toNat ⟨p.left, true⟩).1, (kids (countS s).1.toNat ⟨p.left, true⟩).2)
    else if (countS s).1 = 0 then ([⟨2, s, [], []⟩], skipIf true p [48])
    else ([(numbersT s (readN p.left).1).1], ⟨(readN p.left).2.1, (readN p.left).2.2 && (numbersT s (readN p.left).1).2⟩)
  else ([], ⟨p.left, false⟩)
def wholesP : List Dec → Bool → List Int × Bool
  | [], b => ([], b)
  | d :: r, b => ((wholeD d.man d.exp).1 :: (wholesP r (b && (wholeD d.man d.exp).2)).1, (wholesP r (b && (wholeD d.man d.exp).2)).2)
def arrayP : Nat → PS → List Node × PS
  | 0, p => ([], p)
  | d + 1, p =>
    if (skipP p [226, 138, 130]).1 = true then (⟨5, [], [], []⟩ :: (kidsP (arrayP d) (decide (0 < d)) 1 (skipP p [226, 138, 130]).2).1, (kidsP (arrayP d) (decide (0 < d)) 1 (skipP p [226, 138, 130]).2).2)
    else if (skipIf (numbersP p).2.ok (numbersP p).2 [226, 141, 180]).ok = true then
      itemsP (kidsP (arrayP d) (decide (0 < d))) (wholesP (numbersP p).1 true).1 ⟨(skipIf (numbersP p).2.ok (numbersP p).2 [226, 141, 180]).left, (wholesP (numbersP p).1 true).2⟩
    else itemsP (kidsP (arrayP d) (decide (0 < d))) [] p
/-- notation.Parse. -/
def parseN (s : List UInt8) : List Node × Bool :=
  if (arrayP 16 ⟨s, true⟩).2.ok = true ∧ (arrayP 16 ⟨s, true⟩).2.left = [] ∧ notT (arrayP 16 ⟨s, true⟩).1 = s then ((arrayP 16 ⟨s, true⟩).1, true) else ([], false)
end Go.Proofs.T
