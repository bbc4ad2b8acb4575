/- NotationNests holds for every input: the notation of a tight nest is made of its kids'; under the row's own conditions (the listed package variables as the program lays them). Part 3 of 6: the contracts of the functions that it reaches, and plain lemmas. -/
import Derived.Test.YtafkenbfgmlkkaaGreatDoorTB
import Derived.Lib.AppendZeros
import Derived.Lib.ItoaLen
import Derived.Lib.ReplaceLaws
import Derived.Lib.SplitLaws
import Derived.Lib.AppendIntMem
import Derived.Shelf.Unicode.ValidAny
import Derived.Lib.Join
set_option linter.unusedVariables false
set_option linter.unusedSimpArgs false
namespace Go.Proofs.T
open Go.RowKit
section
variable (s : List Int) (kids : List (List Node)) (A B : Option Addr) (ca cb : Nat) (ok : Nat → Prop) (w : World)
set_option maxHeartbeats 4000000 in
set_option maxRecDepth 100000 in
theorem joined_any (hs : Rd Ly.i64 w ok A s.length s) (hk : Rd lNodes w ok B kids.length kids) (hj : ∀ k ∈ kids, JoinOk k) (hsl : s.length ≤ 1000000000) (hkl : kids.length ≤ 1000000000) :
    Calls Tryz.prog 67 #[.slice A s.length ca, .slice B kids.length cb] w (NumPost w (fun b => w.heap.size ≤ b) (joinedN s kids)) := by
  have HS := Lib.hid hs; have HK := Lib.hid hk; have HJ := Lib.hid hj
  clear hs hk hj
  go_enter Tryz.func67, Tryz.ntmps67
  go_wp2_with (go_at_call 38; refine (cloneI_rd A ca s ok _ (HS.out.alloc (by decide) _) hsl).mono ?_; rintro e w3 ⟨A9, c9, rfl, h9, hb3⟩; obtain ⟨hc3, hf3⟩ := bcell hb3; have z3 : w.heap.size < w3.heap.size := (by have := hb3.size; simp at this; omega); have bx3 := (Box.new w #[.int .i64 0, .slice none 0 0, .slice none 0 0, .slice none 0 0] 28).below hb3)
  go_loopg [7, 9, 10, 16] kids.length (fun gg s7 _ _ i wr => ∃ (k : Nat) (v vi : Value) (is : List Int) (ds : List Dec), v = s7 ∧ k ≤ kids.length ∧ gg = kids.length - k ∧ i = .int .i64 k ∧ is.length + ds.length ≤ k ∧ Hid (JS w wr w3.heap.size v vi is ds A9 c9 s) ∧ Hid (joinL (kids.drop k) is ds = joinL kids [] []))
  case atStart =>
    refine ⟨0, _, .slice none 0 0, [], [], rfl, by omega, by omega, rfl, Nat.le_refl _, ⟨World.ownsRow_nil _ _ _ _, World.ownsRow_nil _ _ _ _, fun b h => by simp [Value.ownBlock] at h, bl_alloc (bl_trans hb3 (bl_alloc (Below.refl _ _) _)) _, z3, bx3.alloc _, Box.new _ _ _, h9.1, ?_, (fun d hd => (by cases hd))⟩, rfl⟩
    exact ((h9.2.mono (ok' := fun b => w.heap.size < b ∧ b < w3.heap.size) (by decide) fun b h1 h2 => ⟨by simp at h1; omega, h2⟩).alloc (by decide) _)
  case round =>
    clear hc3 hf3 hb3 bx3 h9
    obtain ⟨k, v, vi, is, ds, rfl, hk, rfl, rfl, hlen, J, hjoin⟩ := hrel
    obtain ⟨A0, c0, rfl⟩ := own_form J.out.od
    obtain ⟨A1, c1, rfl⟩ := own_form J.out.oi
    obtain ⟨⟨x0, x1, x2, x3⟩, y0, y1, y2, y3⟩ := J.out.bx4.cells
    obtain ⟨⟨u0, u1, u2, u3⟩, v0, v1, v2, v3⟩ := J.out.bx6.cells
    have l6 := J.out.bx6.lt; have z0 := J.out.bx4.lt
    by_cases hlt : k < kids.length
    · obtain ⟨b, o, hBe, _, hrr⟩ := HK.out.row (by omega)
      subst hBe
      obtain ⟨q, ⟨B1, d1, rfl, l1, r1⟩, hq⟩ := hrr k kids[k] (by simp)
      obtain ⟨n, r, hn, hnok, hnl, hn1⟩ := HJ.out kids[k] (List.getElem_mem hlt)
      have hd : Hid (kids.drop k = kids[k] :: kids.drop (k + 1)) := List.drop_eq_getElem_cons hlt
      have hb := J.out.hb
      have e0 := (hb.cell (cell_lt (hq 0 _ rfl))).trans (hq 0 _ rfl)
      simp only [show lNodes.sz = 1 from rfl, Nat.mul_one, Nat.add_zero] at e0
      rw [hn] at e0 hd r1 l1
      obtain ⟨b', o', hBe, _, _⟩ := r1.row (by simp)
      subst hBe
      obtain ⟨P1, g1, P2, g2, P3, g3, e1, e2, e3, e4, r5, r6, r7, m1, m2, m3⟩ := r1.at4 0 (by simp)
      simp only [Nat.zero_mul, Nat.add_zero, List.getElem_cons_zero, List.length_cons] at e0 e1 e2 e3 e4 r5 r6 r7 m1 m2 m3
      replace e1 := (hb.cell (cell_lt e1)).trans e1
      replace e2 := (hb.cell (cell_lt e2)).trans e2
      replace e3 := (hb.cell (cell_lt e3)).trans e3
      replace e4 := (hb.cell (cell_lt e4)).trans e4
      have HN : Hid (NodeAt wr ok n P1 P2 P3 g1 g2 g3) := ⟨m1, r5.below (by decide) hb, m2, r6.below (by decide) hb, m3, r7.below (by decide) hb⟩
      have HNK := Lib.hid hnok
      clear hrr hq hn r1 r5 r6 r7 m1 m2 m3 hb hnok
      have fin : joinL kids [] [] = none → ∀ W, Below w.heap.size w W → NumPost w (fun b => w.heap.size ≤ b) (joinedN s kids) (.returned (.tuple #[.agg #[.int .i64 0, .slice none 0 0, .slice none 0 0, .slice none 0 0], .bool false])) W := fun h W hW => ⟨none, none, none, 0, 0, 0, by unfold joinedN; rw [h]; rfl, by unfold joinedN; rw [h]; exact NodeAt.zero _ _, hW⟩
      have FIN := Lib.hid fin; clear fin
      by_cases hs0 : 0 < n.shape.length
      · have k1 : decide (0 < n.shape.length) = true := by simpa using hs0
        have hno : Hid (joinL kids [] [] = none) := by rw [← hjoin.out, hd.out]; simp [Hid, joinL, hs0]
        clear hs0 hn1
        go_wp2
        exact bodyPost_ret (v := .tuple #[.agg #[.int .i64 0, .slice none 0 0, .slice none 0 0, .slice none 0 0], .bool false]) (by simp (maxDischargeDepth := 6) [results, Tryz.results67, go_sem, x0, x1, x2, x3, z0]) rfl (FIN.out hno.out _ (bl_alloc (bl_set (bl_set (bl_set (bl_set J.out.hb (by simp) _) (by simp) _) (by simp) _) (by simp) _) _))
      · have k1 : decide (0 < n.shape.length) = false := by simpa using hs0
        by_cases hk5 : n.kind = 5
        · have k2 : (n.kind == 5) = true := by simpa using hk5
          have hno : Hid (joinL kids [] [] = none) := by rw [← hjoin.out, hd.out]; simp [Hid, joinL, hk5]
          clear hs0 hn1 hk5
          go_wp2
          exact bodyPost_ret (v := .tuple #[.agg #[.int .i64 0, .slice none 0 0, .slice none 0 0, .slice none 0 0], .bool false]) (by simp (maxDischargeDepth := 6) [results, Tryz.results67, go_sem, x0, x1, x2, x3, z0]) rfl (FIN.out hno.out _ (bl_alloc (bl_set (bl_set (bl_set (bl_set J.out.hb (by simp) _) (by simp) _) (by simp) _) (by simp) _) _))
        · have k2 : (n.kind == 5) = false := by simpa using hk5
          have hn2 := hn1 (by omega) hk5
          by_cases hk3 : n.kind = 3
          · have k3 : (n.kind == 3) = true := by simpa using hk3
            have hst : Hid (joinL (kids.drop (k + 1)) (is ++ n.ints) ds = joinL kids [] []) := by rw [← hjoin.out, hd.out]; simp [Hid, joinL, hk3, show ¬ 0 < n.shape.length from hs0]
            have HL := Lib.hid hn2
            clear hs0 hn1 hk5 hk3 hn2
            go_wp2_with (at_builtin; refine app_row (L := Ly.i64) (w3.heap.size + 1) rfl (.tmp 43) (.tmp 45) 25 3 (.int .i64 0) 8 rfl Tryz.underlying25 info3 rfl (by decide) (.slice A1 is.length c1) is.length (is.map (Value.int .i64)) rfl _ _ n.ints.length _ n.ints rfl (HN.out.r2.alloc (by decide) _) (own_below J.out.oi (bl_alloc (Below.refl _ _) _)) (Below.refl _ _) (by simp; omega) (by have := HL.out.1; simp only [maxLen]; omega) (by have := HL.out.1; omega) ?_; intro v1 w2 cs hp hown2 hb2 hg2 hat2; obtain ⟨A2, c2, rfl⟩ := own_form hown2; have hbx := (J.out.bx6.alloc _).grown hg2 (fun e => absurd (own_base J.out.oi _ e) (by omega)); obtain ⟨⟨t0, t1, t2, t3⟩, s0, s1, s2, s3⟩ := hbx.cells; have hlt2 := hbx.lt)
            go_roundg (kids.length - (k + 1))
            case measure => omega
            case rel =>
              refine ⟨k + 1, _, .slice A2 (is.length + n.ints.length) c2, is ++ n.ints, ds, rfl, by omega, rfl, by go_num, by have := HL.out.1; rw [List.length_append]; omega, ?_, hst⟩
              rw [int_of_parts hp] at hown2
              exact (J.out.below (bl_alloc (Below.refl _ _) _)).ints hg2 (by rw [List.map_append, List.length_append]; exact hown2) hat2
          · have k3 : (n.kind == 3) = false := by simpa using hk3
            have hst : Hid (joinL (kids.drop (k + 1)) is (ds ++ numsN n) = joinL kids [] []) := by rw [← hjoin.out, hd.out]; simp [Hid, joinL, hk3, hk5, show ¬ 0 < n.shape.length from hs0]
            have HL := Lib.hid hn2
            clear hs0 hn1 hk5 hk3 hn2
            go_wp2_with (first
              | (go_at_call 69; refine (numsT_any n P1 P2 P3 g1 g2 g3 ok _ (HN.out.move fun b h1 h2 => (bl_alloc (Below.refl _ _) _).block b h2) HNK.out hnl).mono ?_; rintro e w1 ⟨A5, c5, rfl, l5, r5, hb1⟩)
              | (at_builtin; refine app_row (L := lDec) (w3.heap.size + 1) rfl (.tmp 23) (.tmp 25) 26 39 (.agg #[.int .i64 0, .int .i64 0]) 16 rfl Tryz.underlying26 info39 rfl (by decide) (.slice A0 ds.length c0) ds.length (decCells ds) rfl _ _ (numsN n).length _ (numsN n) rfl r5 (own_below (own_below J.out.od (bl_alloc (Below.refl _ _) _)) hb1) (Below.refl _ _) (by have := hb1.size; simp at this; omega) (by have := HL.out.2; simp only [maxLen]; omega) (by have := HL.out.2; omega) ?_; intro v1 w2 cs hp hown2 hb2 hg2 hat2))
            go_roundg (kids.length - (k + 1))
            case measure => omega
            case rel =>
              refine ⟨k + 1, v1, .slice A1 is.length c1, is, ds ++ numsN n, rfl, by omega, rfl, by go_num, by have := HL.out.2; rw [List.length_append]; omega, ?_, hst⟩
              rw [dec_of_parts hp] at hown2
              exact ((J.out.below (bl_alloc (Below.refl _ _) _)).below hb1).decs hg2 (by rw [decCells_app, List.length_append]; exact hown2) hat2 (numsN_ok n HNK.out)
    · have hkn : kids.drop k = [] := List.drop_eq_nil_of_le (by omega)
      have hfin : Hid (joinL kids [] [] = some (is, ds)) := by rw [← hjoin.out, hkn]; rfl
      clear hkn
      by_cases hq : is.length = kids.length ∧ 0 < kids.length
      · have k1 : ((is.length : Int) == (kids.length : Int)) = true := by simp [hq.1]
        have k2 : decide (0 < kids.length) = true := by simpa using hq.2
        have hres : Hid (joinedN s kids = (⟨3, s, is, []⟩, true)) := by unfold joinedN; rw [hfin.out]; simp only; rw [if_pos hq]; rfl
        clear hq
        go_wp2
        obtain ⟨A2, c2, he, l2, r2⟩ := Rd.own (L := Ly.i64) (ok := fun b => w3.heap.size + 1 ≤ b) J.out.oi (parts_i64 wr _ is) (fun b hb => own_base J.out.oi b hb) (by omega)
        injection he with he1 he2 he3
        subst he1; subst he3
        refine bodyPost_ret (v := .tuple #[nodeV ⟨3, s, is, []⟩ A9 A1 none c9 c1 0, .bool true]) (by simp (maxDischargeDepth := 6) [results, Tryz.results67, go_sem, x0, x1, x2, x3, u0, u1, u2, u3, z0, nodeV, nodeW]) rfl ⟨A9, A1, none, c9, c1, 0, by rw [hres.out], ?_, bl_set (bl_set (bl_set (bl_set J.out.hb (by simp) _) (by simp) _) (by simp) _) (by simp) _⟩
        rw [hres.out]
        have hsz := J.out.h6
        refine ⟨J.out.l9, ?_, l2, ?_, Nat.le_refl _, Rd.nil _ _ _ _⟩
        · exact (J.out.r9.move (by decide) fun b hb _ => set4_heap (by omega)).mono (by decide) fun b hb _ => Nat.le_of_lt hb.1
        · exact (r2.move (by decide) fun b hb _ => set4_heap (by omega)).mono (by decide) fun b hb _ => (by omega)
      · have hres : Hid (joinedN s kids = numbersT s ds) := by unfold joinedN; rw [hfin.out]; simp only; rw [if_neg hq]; rfl
        obtain ⟨A2, c2, he, l2, r2⟩ := Rd.own (L := lDec) (ok := fun b => w3.heap.size + 1 ≤ b) J.out.od (parts_dec wr _ ds) (fun b hb => own_base J.out.od b hb) (by omega)
        injection he with he1 he2 he3
        subst he1; subst he3
        have hnum := numbersT_any s ds A A0 ca c0 (fun b => ok b ∨ w3.heap.size + 1 ≤ b) wr ((HS.out.below (by decide) J.out.hb).mono (by decide) fun b hb _ => .inl hb) (r2.mono (by decide) fun b hb _ => .inr hb) J.out.dk hsl (by omega)
        generalize numbersT s ds = res at hnum hres
        obtain ⟨n', b'⟩ := res
        have HNUM := Lib.hid hnum
        clear hnum
        by_cases hq1 : is.length = kids.length
        · have k1 : ((is.length : Int) == (kids.length : Int)) = true := by simp [hq1]
          have k2 : decide (0 < kids.length) = false := by simpa using fun h => hq ⟨hq1, h⟩
          clear hq hq1
          go_wp2_with (go_at_call 16; refine HNUM.out.mono ?_; rintro e w7 ⟨P1, P2, P3, g1, g2, g3, rfl, hat7, hb7⟩; simp only [nodeV, nodeW]; have hbx7 := J.out.bx4.below hb7; obtain ⟨⟨t0, t1, t2, t3⟩, s0, s1, s2, s3⟩ := hbx7.cells; have hlt7 := hbx7.lt)
          refine bodyPost_ret (v := .tuple #[nodeV n' P1 P2 P3 g1 g2 g3, .bool b']) (by simp (maxDischargeDepth := 6) [results, Tryz.results67, go_sem, t0, t1, t2, t3, hlt7, nodeV, nodeW]) rfl ⟨P1, P2, P3, g1, g2, g3, by rw [hres.out], ?_, bl_set (bl_set (bl_set (bl_set (bl_trans hb7 J.out.hb) (by simp) _) (by simp) _) (by simp) _) (by simp) _⟩
          rw [hres.out]
          exact (hat7.move fun b hb _ => set4_heap (by omega)).mono fun b hb _ => (by omega)
        · have k1 : ((is.length : Int) == (kids.length : Int)) = false := by simp; omega
          clear hq hq1
          go_wp2_with (go_at_call 16; refine HNUM.out.mono ?_; rintro e w7 ⟨P1, P2, P3, g1, g2, g3, rfl, hat7, hb7⟩; simp only [nodeV, nodeW]; have hbx7 := J.out.bx4.below hb7; obtain ⟨⟨t0, t1, t2, t3⟩, s0, s1, s2, s3⟩ := hbx7.cells; have hlt7 := hbx7.lt)
          refine bodyPost_ret (v := .tuple #[nodeV n' P1 P2 P3 g1 g2 g3, .bool b']) (by simp (maxDischargeDepth := 6) [results, Tryz.results67, go_sem, t0, t1, t2, t3, hlt7, nodeV, nodeW]) rfl ⟨P1, P2, P3, g1, g2, g3, by rw [hres.out], ?_, bl_set (bl_set (bl_set (bl_set (bl_trans hb7 J.out.hb) (by simp) _) (by simp) _) (by simp) _) (by simp) _⟩
          rw [hres.out]
          exact (hat7.move fun b hb _ => set4_heap (by omega)).mono fun b hb _ => (by omega)
end
end Go.Proofs.T
namespace Go.Proofs.T
open Go.RowKit
set_option maxHeartbeats 2000000 in
theorem grow0 (w : World) : Calls Tryz.prog 84 #[.slice none 0 0, .int .i64 0] w fun e w' => e = .returned (.slice none 0 0) ∧ w = w' := by
  go_enter Tryz.func84, Tryz.ntmps84
  go_wp2
  go_ret
  exact ⟨rfl, rfl⟩
set_option maxHeartbeats 2000000 in
theorem grow1 (n : Nat) (w : World) (hn : 0 < n) (hm : n ≤ 1000000000) : Calls Tryz.prog 84 #[.slice none 0 0, .int .i64 n] w fun e w' => ∃ v, e = .returned v ∧ w'.ownsRow w.heap.size 28 4 v 0 [] ∧ Below w.heap.size w w' := by
  obtain ⟨i0, hi, hz0, hz1, hz2⟩ := info_parts info28
  have k1 : decide ((n : Int) < 0) = false := by simp
  have k2 : wrap64 (n : Int) = n := by unfold wrap64; omega
  have k3 : decide (0 < n) = true := by simpa using hn
  have HR := Lib.hid (Lib.run_append_nil_zeros (P := Tryz.prog) w 22 3 22 28 i0 _ .i64 .i64 Tryz.underlying22 Tryz.underlying3 hi hz0 n hn (by omega) (by omega) (by rw [hz2]; omega))
  have hcap : Hid (n ≤ grownCap w n 0 28 ∧ grownCap w n 0 28 ≤ maxLen) := ⟨grownCap_ge w n 0 28, grownCap_le_maxLen w n 0 28 (by unfold maxLen; omega)⟩
  generalize grownCap w n 0 28 = cap at HR hcap
  go_enter Tryz.func84, Tryz.ntmps84
  go_wp2_with (at_builtin; refine Lib.wpList_append_run _ rfl _ _ _ _ rfl _ _ rfl rfl _ _ HR.out ?_)
  go_ret
  refine ⟨_, rfl, ⟨rfl, .inr ⟨w.heap.size, cap, _, rfl, Nat.le_refl _, heap_alloc_new w _, by omega, hcap.out.2, ?_, rfl⟩⟩, bl_drew (bl_alloc (Below.refl _ _) _)⟩
  have := hcap.out.1
  simp [size_zeroCells, Value.cells]
  omega
theorem grow_any (n : Nat) (w : World) (hm : n ≤ 1000000000) : Calls Tryz.prog 84 #[.slice none 0 0, .int .i64 n] w fun e w' => ∃ v, e = .returned v ∧ w'.ownsRow w.heap.size 28 4 v 0 [] ∧ Below w.heap.size w w' := by
  rcases Nat.eq_zero_or_pos n with rfl | h
  · exact (grow0 w).mono fun e w' ⟨h1, h2⟩ => ⟨_, h1, World.ownsRow_nil _ _ _ _, h2 ▸ Below.refl _ _⟩
  · exact grow1 n w h hm
end Go.Proofs.T
namespace Go.Proofs.T
open Go.RowKit
theorem Rd.nodesAt {w : World} {ok : Nat → Prop} {b o n : Nat} {kids : List (List Node)} (h : Rd lNodes w ok (some ⟨b, o, none⟩) n kids) (k : Nat) (hk : k < kids.length) :
    ∃ A c, w.cell? ⟨b, o + k, none⟩ = some (.slice A kids[k].length c) ∧ kids[k].length ≤ c ∧ Rd lNode w ok A kids[k].length kids[k] := by
  obtain ⟨b', o', e, _, hr⟩ := h.row (by have := h.len; omega)
  injection e with e; injection e with e1 e2; subst e1; subst e2
  obtain ⟨q, ⟨A, c, rfl, h1, h2⟩, hq⟩ := hr k kids[k] (by simp)
  refine ⟨A, c, ?_, h1, h2⟩
  have := hq 0 _ rfl
  simpa [show lNodes.sz = 1 from rfl] using this
theorem flat_take (kids : List (List Node)) (k : Nat) (hk : k < kids.length) : (kids.take (k + 1)).flatten = (kids.take k).flatten ++ kids[k] := by
  rw [List.take_succ_eq_append_getElem hk, List.flatten_append]; simp
theorem flat_le (kids : List (List Node)) (k : Nat) : (kids.take k).flatten.length ≤ kids.flatten.length := by
  conv => rhs; rw [← List.take_append_drop k kids]
  rw [List.flatten_append, List.length_append]; omega
set_option maxHeartbeats 4000000 in
set_option maxRecDepth 100000 in
theorem concat_any (A : Option Addr) (c : Nat) (kids : List (List Node)) (ok : Nat → Prop) (w : World) (h : Rd lNodes w ok A kids.length kids) (hl : kids.length ≤ 1000000000) (ht : kids.flatten.length ≤ 1000000000) :
    Calls Tryz.prog 68 #[.slice A kids.length c] w fun e w' => ∃ v cs, e = .returned v ∧ w'.ownsRow w.heap.size 28 4 v kids.flatten.length cs ∧ Parts lNode w' (okF ok w.heap.size v) kids.flatten cs ∧ Below w.heap.size w w' := by
  have HK : Hid (Rd lNodes w (fun b => ok b ∧ b < w.heap.size) A kids.length kids) := h.mono (by decide) fun b hb hlt => ⟨hb, hlt⟩
  clear h
  go_enter Tryz.func68, Tryz.ntmps68
  go_wp2
  go_loopg [3, 5, 11] kids.length (fun gg s3 _ i wr => ∃ k : Nat, k ≤ kids.length ∧ gg = kids.length - k ∧ i = .int .i64 k ∧ s3 = .int .i64 ((kids.take k).flatten.length : Nat) ∧ w = wr)
  case atStart => exact ⟨0, by omega, by omega, rfl, by simp, rfl⟩
  case round =>
    obtain ⟨k, hk, rfl, rfl, rfl, rfl⟩ := hrel
    by_cases hlt : k < kids.length
    · obtain ⟨b, o, hBe, _, _⟩ := HK.out.row (by omega)
      subst hBe
      obtain ⟨A1, c1, e0, l1, r1⟩ := HK.out.nodesAt k hlt
      have hs := flat_take kids k hlt
      have hle := flat_le kids (k + 1)
      have hq : Hid ((kids.take (k + 1)).flatten.length = (kids.take k).flatten.length + kids[k].length) := by rw [hs, List.length_append]; rfl
      rw [hq.out] at hle
      clear hs r1
      generalize kids[k].length = m at e0 hq hle l1
      generalize (kids.take k).flatten.length = t at hq hle ⊢
      have z1 : wrap64 ((t : Int) + (m : Int)) = ((t + m : Nat) : Int) := by unfold wrap64; omega
      go_wp2
      go_roundg (kids.length - (k + 1))
      case measure => omega
      case rel => exact ⟨k + 1, by omega, rfl, by go_num, by rw [hq.out]; go_num, rfl⟩
    · rw [show kids.take k = kids from List.take_of_length_le (by omega)]
      obtain ⟨T, hT⟩ : ∃ T, Hid (kids.flatten.length = T) := ⟨_, rfl⟩
      rw [hT.out] at ht ⊢
      have hz : decide ((T : Int) < 0) = false := by simp
      go_wp2_with (go_at_call 84; refine (grow_any T w ht).mono ?_; rintro e w1 ⟨v0, rfl, ho0, hb0⟩)
      go_loopg [6, 8, 27] kids.length (fun gg s6 _ i WR => ∃ (k : Nat) (v : Value) (cs : List Value), v = s6 ∧ k ≤ kids.length ∧ gg = kids.length - k ∧ i = .int .i64 k ∧ WR.ownsRow w.heap.size 28 4 v (kids.take k).flatten.length cs ∧ Below w.heap.size w WR ∧ Hid (Parts lNode WR (okF ok w.heap.size v) (kids.take k).flatten cs))
      case atStart => exact ⟨0, v0, [], rfl, by omega, by omega, rfl, by simpa using ho0, hb0, by simp [Hid, Parts]⟩
      case round =>
        clear ho0 hb0
        obtain ⟨k', v, cs, rfl, hk', rfl, rfl, hown, hb, hparts⟩ := hrel
        obtain ⟨A0, c0, rfl⟩ := own_form hown
        by_cases hlt : k' < kids.length
        · obtain ⟨b, o, hBe, _, _⟩ := HK.out.row (by omega)
          subst hBe
          obtain ⟨A1, c1, e0, l1, r1⟩ := HK.out.nodesAt k' hlt
          have e0 := (hb.cell (cell_lt e0)).trans e0
          have hs : Hid ((kids.take (k' + 1)).flatten = (kids.take k').flatten ++ kids[k']) := flat_take kids k' hlt
          have hle := flat_le kids (k' + 1)
          rw [hs.out, List.length_append, hT.out] at hle
          have R1 : Hid (Rd lNode wr (fun b => ok b ∧ b < w.heap.size) A1 kids[k'].length kids[k']) := r1.below (by decide) hb
          clear r1
          generalize kids[k'] = x at e0 hs hle l1 R1
          generalize (kids.take k').flatten = t at hs hle hown hparts
          have HO := Lib.hid hown
          clear hown
          go_wp2_with (at_builtin; refine app_row (L := lNode) w.heap.size rfl (.tmp 31) (.tmp 32) 22 28 (.agg #[.int .i64 0, .slice none 0 0, .slice none 0 0, .slice none 0 0]) 80 rfl Tryz.underlying22 info28 rfl (by decide) (.slice A0 t.length c0) t.length cs rfl _ _ x.length _ x rfl R1.out HO.out (Below.refl _ _) hb.size (by simp only [maxLen]; omega) (by omega) ?_; intro v1 w3 ds hp hown2 hb2 hg2 hat2)
          go_roundg (kids.length - (k' + 1))
          case measure => omega
          case rel =>
            refine ⟨k' + 1, v1, cs ++ ds, rfl, by omega, rfl, by go_num, by rw [hs.out, List.length_append]; exact hown2, hb.trans hb2, ?_⟩
            rw [hs.out]
            exact (hparts.out.append (hp.mono fun b hb' _ => ⟨.inl hb'.1, fun e => by have := own_base HO.out b e; have := hb'.2; omega⟩)).grown hg2 hat2
        · rw [show kids.take k' = kids from List.take_of_length_le (by omega)] at hown hparts ⊢
          rw [hT.out] at hown hparts ⊢
          go_wp2
          go_ret
          exact ⟨_, cs, rfl, (by rw [hT.out]; exact hown), hparts.out, hb⟩
end Go.Proofs.T
namespace Go.Proofs.T
theorem walkL_fst : ∀ (xs : List Node) (k all d : Int) (s : List Int), 0 ≤ k → (walkL xs k all d s).1 = 0 ∨ k + 1 ≤ (walkL xs k all d s).1
  | [], k, all, d, s, _ => .inl rfl
  | n :: rest, k, all, d, s, hk => by
    rw [walkL_cons]
    generalize (if n.kind = 5 then itemsN n :: s else dec1 s) = s1
    split
    · exact .inl rfl
    · split
      · exact .inl rfl
      · split
        · exact .inl rfl
        · split
          · exact .inr (Int.le_refl _)
          · rcases walkL_fst rest (k + 1) _ _ _ (by omega) with h | h
            · exact .inl h
            · exact .inr (Int.le_trans (by omega) h)
theorem walkL_take : ∀ (xs : List Node) (k all d : Int) (s : List Int) (m : Nat), 0 ≤ k → 1 ≤ m → (walkL xs k all d s).1 = k + m → walkL (xs.take m) k all d s = walkL xs k all d s
  | [], k, all, d, s, m, hk, hm, h => by rw [List.take_nil]
  | n :: rest, k, all, d, s, 0, hk, hm, h => by omega
  | n :: rest, k, all, d, s, m + 1, hk, hm, h => by
    rw [List.take_succ_cons]
    rw [walkL_cons] at h ⊢
    rw [walkL_cons]
    generalize (if n.kind = 5 then itemsN n :: s else dec1 s) = s1 at h ⊢
    split
    · rfl
    · split
      · rfl
      · split
        · rfl
        · split
          · rfl
          · next g1 g2 g3 g4 =>
            rw [if_neg g1, if_neg g2, if_neg g3, if_neg g4] at h
            have h5 := walkL_fst rest (k + 1) (all + itemsN n) (max d (s.length + 1)) (popZ s1) (by omega)
            exact walkL_take rest (k + 1) _ _ _ m (by omega) (by omega) (by omega)
/-- c whole arrays stand here, one behind the other. -/
def KidsC (c : Int) (rest : List Node) : Prop := (c = 0 ∧ rest = []) ∨ (0 < c ∧ ∃ k all d, 1 ≤ k ∧ 0 ≤ all ∧ (walkL rest k all d [c]).1 = k + rest.length)
theorem rightA_iff (a : List Node) : rightA a = true ↔ 0 < a.length ∧ takeN a = a.length := by
  unfold rightA; simp
theorem KidsC.nil {c : Int} (h : KidsC c []) : c = 0 := by
  rcases h with h | ⟨h, k, all, d, hk, _, h2⟩
  · exact h.1
  · rw [show (walkL [] k all d [c]).1 = 0 from rfl] at h2
    simp at h2; omega
theorem KidsC.step {c : Int} {rest : List Node} (h : KidsC c rest) (hne : rest ≠ []) : ∃ m : Nat, takeN rest = m ∧ 1 ≤ m ∧ m ≤ rest.length ∧ rightA (rest.take m) = true ∧ 0 < c ∧ KidsC (c - 1) (rest.drop m) := by
  rcases h with h | ⟨hc0, k, all, d, hk, ha, h⟩
  · exact absurd h.2 hne
  · have hl : 0 < rest.length := List.length_pos_iff.2 hne
    obtain ⟨m, it, dp, h1, h2, h3, h4, d', h5⟩ := walk_local c [] rest [] k all d 0 0 0 (by omega) (by rw [List.nil_append, h]; omega) (by omega)
    have ht : takeN rest = m := by unfold takeN walkN; rw [h4]; simp
    refine ⟨m, ht, h1, h2, ?_, hc0, ?_⟩
    · rw [rightA_iff, List.length_take, Nat.min_eq_left h2]
      refine ⟨h1, ?_⟩
      rw [← ht]
      unfold takeN walkN
      rw [walkL_take rest 0 0 0 [] m (by omega) h1 (by rw [h4])]
    · rw [List.nil_append] at h5
      rw [h5] at h
      by_cases hc : popZ [c - 1] = []
      · rw [if_pos hc] at h
        simp only at h
        refine .inl ⟨?_, List.drop_eq_nil_of_le (by omega)⟩
        by_cases h0 : c - 1 = 0
        · exact h0
        · rw [popZ_stop [] h0] at hc; cases hc
      · rw [if_neg hc] at h
        have h0 : c - 1 ≠ 0 := fun h0 => by rw [h0, popZ_zero] at hc; exact absurd rfl hc
        rw [popZ_stop [] h0] at h
        refine .inr ⟨by omega, k + m, all + it, d', by omega, by omega, ?_⟩
        rw [h, List.length_drop]
        omega
theorem KidsC.of {n : Node} {rest : List Node} (h : rightA (n :: rest) = true) (hk : n.kind = 5) : 0 ≤ itemsN n ∧ KidsC (itemsN n) rest := by
  unfold rightA takeN walkN at h
  simp only [Bool.and_eq_true, beq_iff_eq, decide_eq_true_eq] at h
  have h2 := h.2
  rw [walkL_cons] at h2
  have hne : ((n :: rest).length : Int) ≠ 0 := by simp; omega
  by_cases g1 : itemsN n < 0
  · rw [if_pos g1] at h2; exact absurd h2.symm hne
  by_cases g2 : 1048576 < 0 + itemsN n
  · rw [if_neg g1, if_pos g2] at h2; exact absurd h2.symm hne
  by_cases g3 : 16 ≤ ([] : List Int).length
  · simp at g3
  rw [if_neg g1, if_neg g2, if_neg g3, if_pos hk] at h2
  refine ⟨by omega, ?_⟩
  by_cases h0 : itemsN n = 0
  · rw [h0, popZ_zero, show popZ (dec1 []) = [] from rfl, if_pos rfl] at h2
    simp only [List.length_cons] at h2
    exact .inl ⟨h0, List.eq_nil_of_length_eq_zero (by omega)⟩
  · rw [popZ_stop [] h0, if_neg (by simp)] at h2
    refine .inr ⟨by omega, 0 + 1, _, _, by omega, by omega, h2.trans ?_⟩
    simp only [List.length_cons]
    omega
theorem right_one {n : Node} {rest : List Node} (h : rightA (n :: rest) = true) (hk : n.kind ≠ 5) : 0 ≤ itemsN n ∧ rest = [] := by
  unfold rightA takeN walkN at h
  simp only [Bool.and_eq_true, beq_iff_eq, decide_eq_true_eq] at h
  have h2 := h.2
  rw [walkL_cons] at h2
  have hne : ((n :: rest).length : Int) ≠ 0 := by simp; omega
  by_cases g1 : itemsN n < 0
  · rw [if_pos g1] at h2; exact absurd h2.symm hne
  by_cases g2 : 1048576 < 0 + itemsN n
  · rw [if_neg g1, if_pos g2] at h2; exact absurd h2.symm hne
  by_cases g3 : 16 ≤ ([] : List Int).length
  · simp at g3
  rw [if_neg g1, if_neg g2, if_neg g3, if_neg hk, show popZ (dec1 []) = [] from rfl, if_pos rfl] at h2
  simp only [List.length_cons] at h2
  exact ⟨by omega, List.eq_nil_of_length_eq_zero (by omega)⟩
/-- The kids of a right array are right, as many as it has items, and they are all of what stands behind the first node. -/
theorem kidsL_spec : ∀ (f : Nat) (c : Int) (rest : List Node), rest.length ≤ f → KidsC c rest → ((kidsL f rest).length : Int) = c ∧ (kidsL f rest).flatten = rest ∧ ∀ k ∈ kidsL f rest, rightA k = true ∧ k.length ≤ rest.length
  | 0, c, rest, hf, h => by
    obtain rfl : rest = [] := List.eq_nil_of_length_eq_zero (by omega)
    have := h.nil
    exact ⟨by simp [kidsL, this], rfl, fun k hk => by simp [kidsL] at hk⟩
  | f + 1, c, [], hf, h => by
    have := h.nil
    exact ⟨by simp [kidsL, this], rfl, fun k hk => by simp [kidsL] at hk⟩
  | f + 1, c, x :: xs, hf, h => by
    obtain ⟨m, h1, h2, h3, h4, h5, h6⟩ := h.step (by simp)
    have ih := kidsL_spec f (c - 1) ((x :: xs).drop m) (by rw [List.length_drop]; omega) h6
    rw [kidsL_cons f (by simp), h1]
    simp only [Int.toNat_natCast]
    refine ⟨by rw [List.length_cons]; omega, by rw [List.flatten_cons, ih.2.1, List.take_append_drop], fun k hk => ?_⟩
    rcases List.mem_cons.1 hk with rfl | hk
    · exact ⟨h4, by rw [List.length_take]; omega⟩
    · have := ih.2.2 k hk
      refine ⟨this.1, Nat.le_trans this.2 (by rw [List.length_drop]; omega)⟩
end Go.Proofs.T
namespace Go.Proofs.T
/-- The tight form. -/
def formN : Nat → List Node → List Node
  | 0, a => a
  | _ + 1, [] => []
  | f + 1, n :: rest => if n.kind = 3 then n :: rest else if n.kind = 5 then
      if (joinedN n.shape ((kidsL (rest.length + 1) rest).map (formN f))).2 = true then [(joinedN n.shape ((kidsL (rest.length + 1) rest).map (formN f))).1] else ⟨5, n.shape, [], []⟩ :: ((kidsL (rest.length + 1) rest).map (formN f)).flatten
    else [(numbersT n.shape (numsN n)).1]
theorem count_nil : countS [] = (1, true) := by decide
/-- What a node of a tight form is. -/
structure NodeFit (n : Node) (b : Nat) : Prop where
  ok : NodeOk n
  s : n.shape.length ≤ 1000000000
  i : n.ints.length ≤ b
  d : n.decs.length ≤ b
  one : n.shape.length = 0 → n.kind ≠ 5 → n.ints.length ≤ 1 ∧ (numsN n).length ≤ 1
theorem lit (k : Int) (h : 0 ≤ k ∧ k ≤ 9) : I64 k := by unfold I64; omega
theorem zeroN_fit (b : Nat) : NodeFit zeroN b := ⟨⟨lit 0 (by omega), fun x h => (by cases h), fun x h => (by cases h), fun x h => (by cases h)⟩, by decide, Nat.zero_le _, Nat.zero_le _, fun _ _ => by decide⟩
theorem numbersT_fit (s : List Int) (l : List Dec) (hs : I64s s) (hl : DecsOk l) (hsl : s.length ≤ 1000000000) : NodeFit (numbersT s l).1 l.length := by
  unfold numbersT
  split
  · exact zeroN_fit _
  · next h0 =>
    split
    · exact zeroN_fit _
    · next h1 =>
      have h1 := Decidable.not_not.1 h1
      split
      · exact zeroN_fit _
      · have hone : s.length = 0 → l.length = 1 := fun h => by
          rw [List.eq_nil_of_length_eq_zero h, count_nil] at h1
          simp only at h1
          omega
        split
        · refine ⟨⟨lit 4 (by omega), hs, fun x h => (by cases h), hl⟩, hsl, Nat.zero_le _, Nat.le_refl _, fun h _ => ⟨Nat.zero_le _, ?_⟩⟩
          have := hone h
          show l.length ≤ 1
          omega
        · next is hw =>
          have h2 := wholeAll_ok l is hl hw
          refine ⟨⟨?_, hs, h2.1, fun x h => (by cases h)⟩, hsl, by simp only; omega, Nat.zero_le _, fun h _ => ?_⟩
          · split
            · exact lit 1 (by omega)
            · exact lit 2 (by omega)
          · have := hone h
            refine ⟨by simp only; omega, ?_⟩
            unfold numsN
            rw [if_neg (by simp only; split <;> omega), List.length_map]
            simp only
            omega
theorem joinL_ok : ∀ (kids : List (List Node)) (i0 : List Int) (d0 : List Dec) (is : List Int) (ds : List Dec), (∀ k ∈ kids, JoinOk k) → I64s i0 → DecsOk d0 → joinL kids i0 d0 = some (is, ds) → I64s is ∧ DecsOk ds ∧ is.length + ds.length ≤ i0.length + d0.length + kids.length
  | [], i0, d0, is, ds, _, hi, hd, h => by
    simp only [joinL, Option.some.injEq, Prod.mk.injEq] at h
    obtain ⟨rfl, rfl⟩ := h
    exact ⟨hi, hd, Nat.le_refl _⟩
  | k :: ks, i0, d0, is, ds, hj, hi, hd, h => by
    obtain ⟨n, r, rfl, hn, _, h1⟩ := hj k (by simp)
    unfold joinL at h
    split at h
    · cases h
    · next hc =>
      have h1 := h1 (by omega) (fun e => hc (.inr e))
      split at h
      · have := joinL_ok ks _ _ is ds (fun k hk => hj k (List.mem_cons_of_mem _ hk)) (fun x hx => (List.mem_append.1 hx).elim (hi x) (hn.ints x)) hd h
        refine ⟨this.1, this.2.1, ?_⟩
        have h3 := this.2.2
        rw [List.length_append] at h3
        rw [List.length_cons]
        omega
      · have := joinL_ok ks _ _ is ds (fun k hk => hj k (List.mem_cons_of_mem _ hk)) hi (fun x hx => (List.mem_append.1 hx).elim (hd x) (numsN_ok n hn x)) h
        refine ⟨this.1, this.2.1, ?_⟩
        have h3 := this.2.2
        rw [List.length_append] at h3
        rw [List.length_cons]
        omega
theorem joinedN_fit (s : List Int) (kids : List (List Node)) (hs : I64s s) (hsl : s.length ≤ 1000000000) (hj : ∀ k ∈ kids, JoinOk k) (h1 : s.length = 0 → kids.length = 1) : NodeFit (joinedN s kids).1 kids.length := by
  unfold joinedN
  split
  · exact zeroN_fit _
  · next is ds h =>
    have h2 := joinL_ok kids [] [] is ds hj (fun x h => (by cases h)) (fun x h => (by cases h)) h
    have h3 := h2.2.2
    simp only [List.length_nil, Nat.zero_add] at h3
    split
    · next hq =>
      refine ⟨⟨lit 3 (by omega), hs, h2.1, fun x h => (by cases h)⟩, hsl, by simp only; omega, Nat.zero_le _, fun h _ => ?_⟩
      have := h1 h
      refine ⟨by simp only; omega, ?_⟩
      unfold numsN
      rw [if_neg (by simp only; omega), List.length_map]
      simp only
      omega
    · have := numbersT_fit s ds hs h2.2.1 hsl
      exact ⟨this.ok, this.s, Nat.le_trans this.i (by omega), Nat.le_trans this.d (by omega), this.one⟩
theorem items_pos {n : Node} (h : 0 ≤ itemsN n) : itemsN n = (countS n.shape).1 ∧ (n.kind = 3 → (n.ints.length : Int) = (countS n.shape).1) := by
  unfold itemsN at h ⊢
  simp only at h ⊢
  by_cases h1 : (countS n.shape).2 = false
  · rw [if_pos h1] at h; omega
  · rw [if_neg h1] at h ⊢
    by_cases h2 : n.kind = 1 ∨ n.kind = 2 ∨ n.kind = 3
    · rw [if_pos h2] at h ⊢
      by_cases h3 : (n.ints.length : Int) ≠ (countS n.shape).1 ∨ n.decs.length ≠ 0 ∨ (n.ints.any fun x => !fitsN n.kind x) = true
      · rw [if_pos h3] at h; omega
      · rw [if_neg h3]
        refine ⟨rfl, fun _ => ?_⟩
        by_cases h4 : (n.ints.length : Int) = (countS n.shape).1
        · exact h4
        · exact absurd (.inl h4) h3
    · rw [if_neg h2] at h ⊢
      refine ⟨?_, fun e => absurd (.inr (.inr e)) h2⟩
      split at h
      · split at h
        · omega
        · next h3 h4 => rw [if_pos h3, if_neg h4]
      · next h3 =>
        rw [if_neg h3]
        split at h
        · split at h
          · omega
          · next h4 h5 => rw [if_pos h4, if_neg h5]
        · omega
theorem sum_le {f : List Node → List Node} : ∀ {ks : List (List Node)}, (∀ k ∈ ks, (f k).length ≤ k.length) → ((ks.map f).flatten).length ≤ ks.flatten.length
  | [], _ => Nat.le_refl _
  | k :: ks, h => by
    rw [List.map_cons, List.flatten_cons, List.flatten_cons, List.length_append, List.length_append]
    have h1 := h k (by simp)
    have h2 := sum_le (f := f) (ks := ks) fun k hk => h k (List.mem_cons_of_mem _ hk)
    omega
/-- What a tight form is. -/
structure FormFit (r : List Node) (len : Nat) : Prop where
  nodes : NodesOk r
  inn : InOk r
  le : r.length ≤ len
  join : JoinOk r
theorem formN_fit : ∀ (f : Nat) (a : List Node), a.length ≤ f → a.length ≤ 1000000000 → rightA a = true → NodesOk a → InOk a → FormFit (formN f a) a.length
  | 0, a, hf, _, hr, _, _ => by have := ((rightA_iff a).1 hr).1; omega
  | f + 1, [], _, _, hr, _, _ => by have := ((rightA_iff []).1 hr).1; simp at this
  | f + 1, n :: rest, hf, hl, hr, hn, hi => by
    have fit1 : ∀ (m : Node) (b : Nat), b ≤ 1000000000 → NodeFit m b → FormFit [m] (n :: rest).length := fun m b hb h =>
      ⟨fun x hx => by rw [List.mem_singleton.1 hx]; exact h.ok, fun x hx => by rw [List.mem_singleton.1 hx]; exact ⟨h.s, Nat.le_trans h.i hb, Nat.le_trans h.d hb⟩, by simp, ⟨m, [], rfl, h.ok, Nat.le_trans h.i hb, h.one⟩⟩
    have n0 := hn n (by simp)
    have i0 := hi n (by simp)
    unfold formN
    by_cases h3 : n.kind = 3
    · rw [if_pos h3]
      have h1 := right_one hr (by omega)
      have h2 := items_pos h1.1
      refine ⟨hn, hi, Nat.le_refl _, ⟨n, rest, rfl, n0, i0.2.1, fun hs _ => ?_⟩⟩
      have h4 := h2.2 h3
      rw [List.eq_nil_of_length_eq_zero hs, count_nil] at h4
      simp only at h4
      refine ⟨by omega, ?_⟩
      unfold numsN
      rw [if_neg (by omega), List.length_map]
      omega
    · rw [if_neg h3]
      by_cases h5 : n.kind = 5
      · rw [if_pos h5]
        have hk := KidsC.of hr h5
        have hsp := kidsL_spec (rest.length + 1) (itemsN n) rest (by omega) hk.2
        have hmem : ∀ k ∈ kidsL (rest.length + 1) rest, ∀ x ∈ k, x ∈ rest := fun k hk x hx => by
          rw [← hsp.2.1]; exact List.mem_flatten.2 ⟨k, hk, hx⟩
        have hkid : ∀ k ∈ kidsL (rest.length + 1) rest, FormFit (formN f k) k.length := fun k hk => by
          have h6 := hsp.2.2 k hk
          simp only [List.length_cons] at hf hl
          exact formN_fit f k (by omega) (by omega) h6.1 (fun x hx => hn x (List.mem_cons_of_mem _ (hmem k hk x hx))) (fun x hx => hi x (List.mem_cons_of_mem _ (hmem k hk x hx)))
        have hj : ∀ k ∈ (kidsL (rest.length + 1) rest).map (formN f), JoinOk k := fun k hk => by
          obtain ⟨k0, h6, rfl⟩ := List.mem_map.1 hk
          exact (hkid k0 h6).join
        have hc : (kidsL (rest.length + 1) rest).length ≤ 1048576 := by
          have := countS_bd n.shape
          have := (items_pos hk.1).1
          omega
        split
        · refine fit1 _ ((kidsL (rest.length + 1) rest).map (formN f)).length (by rw [List.length_map]; omega) (joinedN_fit n.shape _ n0.shape i0.1 hj fun hs => ?_)
          have := (items_pos hk.1).1
          rw [List.eq_nil_of_length_eq_zero hs, count_nil] at this
          simp only at this
          rw [List.length_map]
          omega
        · have hsum := sum_le (f := formN f) (ks := kidsL (rest.length + 1) rest) fun k hk => (hkid k hk).le
          rw [hsp.2.1] at hsum
          have hin : ∀ x ∈ ((kidsL (rest.length + 1) rest).map (formN f)).flatten, NodeOk x ∧ (x.shape.length ≤ 1000000000 ∧ x.ints.length ≤ 1000000000 ∧ x.decs.length ≤ 1000000000) := fun x hx => by
            obtain ⟨k, hk, hx⟩ := List.mem_flatten.1 hx
            obtain ⟨k0, h6, rfl⟩ := List.mem_map.1 hk
            exact ⟨(hkid k0 h6).nodes x hx, (hkid k0 h6).inn x hx⟩
          have n5 : NodeOk ⟨5, n.shape, [], []⟩ := ⟨lit 5 (by omega), n0.shape, fun x h => (by cases h), fun x h => (by cases h)⟩
          refine ⟨fun x hx => ?_, fun x hx => ?_, by rw [List.length_cons, List.length_cons]; omega, ⟨_, _, rfl, n5, Nat.zero_le _, fun _ h => absurd rfl h⟩⟩
          · rcases List.mem_cons.1 hx with rfl | hx
            · exact n5
            · exact (hin x hx).1
          · rcases List.mem_cons.1 hx with rfl | hx
            · exact ⟨i0.1, Nat.zero_le _, Nat.zero_le _⟩
            · exact (hin x hx).2
      · rw [if_neg h5]
        have hd := numsN_ok n n0
        refine fit1 _ (numsN n).length ?_ (numbersT_fit n.shape (numsN n) n0.shape hd i0.1)
        unfold numsN
        split
        · exact i0.2.2
        · rw [List.length_map]; exact i0.2.1
end Go.Proofs.T
namespace Go.Proofs.T
open Go.RowKit
def FormPost (w : World) (ok : Nat → Prop) (r : List Node) (e : Ending) (w' : World) : Prop :=
  ∃ v cs, e = .returned v ∧ w'.ownsRow w.heap.size 28 4 v r.length cs ∧ Parts lNode w' (okF ok w.heap.size v) r cs ∧ Below w.heap.size w w'
theorem FormPost.later {w w1 w' : World} {ok : Nat → Prop} {r : List Node} {e : Ending} (h : FormPost w1 ok r e w') (hb : Below w.heap.size w w1) : FormPost w ok r e w' := by
  obtain ⟨v, cs, rfl, h1, h2, h3⟩ := h
  have hsz := hb.size
  refine ⟨v, cs, rfl, ⟨h1.1, ?_⟩, h2.mono fun b hb' _ => ⟨?_, hb'.2⟩, bl_trans h3 hb⟩
  · rcases h1.2 with h | ⟨g, cap, cur, e, hg, hr⟩
    · exact .inl h
    · exact .inr ⟨g, cap, cur, e, Nat.le_trans hsz hg, hr⟩
  · rcases hb'.1 with h | h
    · exact .inl h
    · exact .inr (Nat.le_trans hsz h)
section
variable (b o c : Nat) (n : Node) (rest : List Node) (ok : Nat → Prop) (w : World)
set_option maxHeartbeats 4000000 in
set_option maxRecDepth 100000 in
theorem form_char (h : Rd lNode w ok (some ⟨b, o, none⟩) (n :: rest).length (n :: rest)) (hx : NodesOk (n :: rest)) (hin : InOk (n :: rest)) (hlen : (n :: rest).length ≤ 1000000000) (hk3 : n.kind = 3) :
    Calls Tryz.prog 44 #[.slice (some ⟨b, o, none⟩) (n :: rest).length c] w (FormPost w ok (n :: rest)) := by
  obtain ⟨A1, c1, A2, c2, A3, c3, q0, q1, q2, q3, _⟩ := h.at4 0 (by simp)
  simp only [Nat.zero_mul, Nat.add_zero, List.getElem_cons_zero] at q0 q1 q2 q3
  have hc := fun q => copy_any (some ⟨b, o, none⟩) c (n :: rest) ok _ (h.alloc (by decide) q) hx hlen hin
  have HC := Lib.hid hc; 
  clear hc h hx hin
  simp only [List.length_cons] at HC ⊢
  have k1 : (n.kind == 3) = true := by simpa using hk3
  clear hk3
  go_enter Tryz.func44, Tryz.ntmps44
  go_wp2_with (go_at_call 24; refine (HC.out _).mono ?_; rintro e w1 ⟨v, cs, rfl, h1, h2, h3⟩)
  go_ret
  exact FormPost.later ⟨v, cs, rfl, h1, h2, h3⟩ (bl_alloc (Below.refl _ _) _)
end
end Go.Proofs.T
namespace Go.Proofs.T
open Go.RowKit
theorem Box.drew {w : World} {B : Nat} {cs : Array Value} {t : TypeId} (h : Box w B cs t) : Box w.drew B cs t := h
structure Keep4 (w : World) (v0 v1 v2 v3 : Value) (W : World) : Prop where
  hb : Below w.heap.size w W
  lt : w.heap.size < W.heap.size
  c0 : W.cell? ⟨w.heap.size, 0, none⟩ = some v0
  c1 : W.cell? ⟨w.heap.size, 1, none⟩ = some v1
  c2 : W.cell? ⟨w.heap.size, 2, none⟩ = some v2
  c3 : W.cell? ⟨w.heap.size, 3, none⟩ = some v3
theorem Keep4.below {w W X : World} {v0 v1 v2 v3 : Value} (h : Keep4 w v0 v1 v2 v3 W) (hb : Below W.heap.size W X) : Keep4 w v0 v1 v2 v3 X := by
  have hc := (bcell hb).1
  exact ⟨bl_trans hb h.hb, Nat.lt_of_lt_of_le h.lt hb.size, (hc _ _ h.lt).trans h.c0, (hc _ _ h.lt).trans h.c1, (hc _ _ h.lt).trans h.c2, (hc _ _ h.lt).trans h.c3⟩
theorem Keep4.alloc {w W : World} {v0 v1 v2 v3 : Value} (h : Keep4 w v0 v1 v2 v3 W) (o : Obj) : Keep4 w v0 v1 v2 v3 (W.alloc o) := h.below (bl_alloc (Below.refl _ _) o)
theorem Keep4.set4 {w W : World} {v0 v1 v2 v3 : Value} {g i1 i2 i3 i4 : Nat} {u1 u2 u3 u4 : Value} (h : Keep4 w v0 v1 v2 v3 W) (hg : w.heap.size < g) :
    Keep4 w v0 v1 v2 v3 ((((W.setCell ⟨g, i1, none⟩ u1).setCell ⟨g, i2, none⟩ u2).setCell ⟨g, i3, none⟩ u3).setCell ⟨g, i4, none⟩ u4) :=
  ⟨set4_below h.hb (Nat.le_of_lt hg), set4_size h.lt, (set4_cell (Nat.ne_of_lt hg)).trans h.c0, (set4_cell (Nat.ne_of_lt hg)).trans h.c1, (set4_cell (Nat.ne_of_lt hg)).trans h.c2, (set4_cell (Nat.ne_of_lt hg)).trans h.c3⟩
theorem Keep4.all {w W : World} {v0 v1 v2 v3 : Value} (h : Keep4 w v0 v1 v2 v3 W) : Keep4 w v0 v1 v2 v3 W ∧ W.cell? ⟨w.heap.size, 0, none⟩ = some v0 ∧ W.cell? ⟨w.heap.size, 1, none⟩ = some v1 ∧ W.cell? ⟨w.heap.size, 2, none⟩ = some v2 ∧ W.cell? ⟨w.heap.size, 3, none⟩ = some v3 := ⟨h, h.c0, h.c1, h.c2, h.c3⟩
/-- A slice of one new node. -/
theorem one_node {G : Nat} {w W : World} {ok : Nat → Prop} {n : Node} {P1 P2 P3 : Option Addr} {g1 g2 g3 : Nat} (hb : Below w.heap.size w W) (h : NodeAt W (fun b => w.heap.size ≤ b) n P1 P2 P3 g1 g2 g3)  (hG : G = W.heap.size) :
    FormPost w ok [n] (.returned (.slice (some ⟨G, 0, none⟩) 1 1)) (W.alloc (.cells #[.int .i64 n.kind, .slice P1 n.shape.length g1, .slice P2 n.ints.length g2, .slice P3 n.decs.length g3] 28)) := by
  subst hG
  refine ⟨_, [.int .i64 n.kind, .slice P1 n.shape.length g1, .slice P2 n.ints.length g2, .slice P3 n.decs.length g3], rfl, ⟨rfl, .inr ⟨W.heap.size, 1, _, rfl, hb.size, heap_alloc_new W _, Nat.le_refl _, by decide, rfl, rfl⟩⟩, Parts.single ?_, bl_alloc hb _⟩
  have h2 : NodeAt (W.alloc (.cells #[.int .i64 n.kind, .slice P1 n.shape.length g1, .slice P2 n.ints.length g2, .slice P3 n.decs.length g3] 28)) (okF ok w.heap.size (.slice (some ⟨W.heap.size, 0, none⟩) 1 1)) n P1 P2 P3 g1 g2 g3 :=
    ((h.mono (ok' := fun b => w.heap.size ≤ b ∧ b < W.heap.size) fun b h1 h2 => ⟨h1, h2⟩).move fun b _ h2 => (bl_alloc (Below.refl _ _) _).block b h2).mono fun b hb2 _ => ⟨.inr hb2.1, fun e => by
      have h3 := hb2.2
      have : W.heap.size = b := by simpa [Value.ownBlock] using e
      omega⟩
  exact ⟨[_], [_, _, _], rfl, rfl, [_], [_, _], rfl, ⟨P1, g1, rfl, h2.l1, h2.r1⟩, [_], [_], rfl, ⟨P2, g2, rfl, h2.l2, h2.r2⟩, P3, g3, rfl, h2.l3, h2.r3⟩
section
variable (b o c : Nat) (n : Node) (rest : List Node) (ok : Nat → Prop) (w : World)
set_option maxHeartbeats 4000000 in
set_option maxRecDepth 100000 in
theorem form_nums (h : Rd lNode w ok (some ⟨b, o, none⟩) (n :: rest).length (n :: rest)) (hx : NodesOk (n :: rest)) (hin : InOk (n :: rest)) (hk3 : n.kind ≠ 3) (hk5 : n.kind ≠ 5) :
    Calls Tryz.prog 44 #[.slice (some ⟨b, o, none⟩) (n :: rest).length c] w (FormPost w ok [(numbersT n.shape (numsN n)).1]) := by
  obtain ⟨A1, c1, A2, c2, A3, c3, q0, q1, q2, q3, r5, r6, r7, m1, m2, m3⟩ := h.at4 0 (by simp)
  simp only [Nat.zero_mul, Nat.add_zero, List.getElem_cons_zero] at q0 q1 q2 q3 r5 r6 r7 m1 m2 m3
  have HN : Hid (NodeAt w ok n A1 A2 A3 c1 c2 c3) := ⟨m1, r5, m2, r6, m3, r7⟩
  have HX := Lib.hid (hx n (by simp)); have HI := Lib.hid (hin n (by simp))
  have k1 : (n.kind == 3) = false := by simpa using hk3
  have k2 : (n.kind == 5) = false := by simpa using hk5
  have HDL : Hid ((numsN n).length ≤ 1000000000) := by
    unfold numsN
    split
    · exact HI.out.2.2
    · rw [List.length_map]; exact HI.out.2.1
  have HDK := Lib.hid (numsN_ok n HX.out)
  clear hk3 hk5 hx hin h r5 r6 r7 m1 m2 m3
  simp only [List.length_cons]
  obtain ⟨ds, hds⟩ : ∃ ds, numsN n = ds := ⟨_, rfl⟩
  have HNT := Lib.hid (fun W hW => numsT_any n A1 A2 A3 c1 c2 c3 ok W (HN.out.move fun b _ h2 => (hW : Below w.heap.size w W).block b h2) HX.out HI.out.2.1)
  rw [hds] at HNT HDL HDK ⊢
  clear hds
  generalize hres : numbersT n.shape ds = res
  obtain ⟨n', b'⟩ := res
  have HRES := Lib.hid hres; clear hres
  go_enter Tryz.func44, Tryz.ntmps44
  go_wp2
  have K0 : Keep4 w (.int .i64 n.kind) (.slice A1 n.shape.length c1) (.slice A2 n.ints.length c2) (.slice A3 n.decs.length c3) (w.alloc (.cells #[.int .i64 n.kind, .slice A1 n.shape.length c1, .slice A2 n.ints.length c2, .slice A3 n.decs.length c3] 28)).drew := ⟨bl_drew (bl_alloc (Below.refl _ _) _), by simp, by simp, by simp, by simp, by simp⟩
  go_region_held3 (fun w' => Keep4 w (.int .i64 n.kind) (.slice A1 n.shape.length c1) (.slice A2 n.ints.length c2) (.slice A3 n.decs.length c3) w' ∧ w'.cell? ⟨w.heap.size, 0, none⟩ = some (.int .i64 n.kind) ∧ w'.cell? ⟨w.heap.size, 1, none⟩ = some (.slice A1 n.shape.length c1) ∧ w'.cell? ⟨w.heap.size, 2, none⟩ = some (.slice A2 n.ints.length c2) ∧ w'.cell? ⟨w.heap.size, 3, none⟩ = some (.slice A3 n.decs.length c3))
    (first
      | exact Keep4.all (by with_reducible assumption)
      | exact Keep4.all (Keep4.alloc (by with_reducible assumption) _)
      | exact Keep4.all (Keep4.set4 (by with_reducible assumption) (by first | exact KB.lt | exact KA.lt | (simp; done) | omega))
      | exact Keep4.all (Keep4.set4 (Keep4.alloc (by with_reducible assumption) _) (by first | exact KB.lt | exact KA.lt | (simp; done) | omega)))
    (first
      | (go_at_call 69; refine (HNT.out _ (by first | with_reducible assumption | exact Keep4.alloc (by with_reducible assumption) _ : Keep4 w (.int .i64 n.kind) (.slice A1 n.shape.length c1) (.slice A2 n.ints.length c2) (.slice A3 n.decs.length c3) _).hb).mono ?_; rintro e wA ⟨A5, c5, rfl, l5, r5, hbA⟩; obtain ⟨hcA, hfA⟩ := bcell hbA; have zA := hbA.size; (try simp at zA); have KA : Keep4 w (.int .i64 n.kind) (.slice A1 n.shape.length c1) (.slice A2 n.ints.length c2) (.slice A3 n.decs.length c3) wA := Keep4.below (by first | with_reducible assumption | exact Keep4.alloc (by with_reducible assumption) _) hbA; obtain ⟨y0, y1, y2, y3⟩ : _ ∧ _ ∧ _ ∧ _ := ⟨KA.c0, KA.c1, KA.c2, KA.c3⟩; try (have bxA := (Box.new _ #[.int .i64 0, .slice none 0 0, .slice none 0 0, .slice none 0 0] 28).drew.below hbA; (try simp at bxA); obtain ⟨⟨x0, x1, x2, x3⟩, f0, f1, f2, f3⟩ := bxA.cells))
      | (go_at_call 16; refine (numbersT_any n.shape ds A1 A5 c1 c5 (fun b => ok b ∨ _) _ ((HN.out.move fun b _ h2 => (by first | with_reducible assumption | exact Keep4.alloc (by with_reducible assumption) _ : Keep4 w (.int .i64 n.kind) (.slice A1 n.shape.length c1) (.slice A2 n.ints.length c2) (.slice A3 n.decs.length c3) _).hb.block b h2).r1.mono (by decide) fun b h1 _ => Or.inl h1) (by first | exact r5 | exact r5.alloc (by decide) _) HDK.out HI.out.1 HDL.out).mono ?_; rw [HRES.out]; rintro e wB ⟨P1, P2, P3, g1, g2, g3, rfl, hat, hbB⟩; simp only [nodeV, nodeW]; obtain ⟨hcB, hfB⟩ := bcell hbB; have zB := hbB.size; (try simp at zB); have KB : Keep4 w (.int .i64 n.kind) (.slice A1 n.shape.length c1) (.slice A2 n.ints.length c2) (.slice A3 n.decs.length c3) wB := Keep4.below (by first | with_reducible assumption | exact Keep4.alloc (by with_reducible assumption) _) hbB; obtain ⟨t0, t1, t2, t3⟩ : _ ∧ _ ∧ _ ∧ _ := ⟨KB.c0, KB.c1, KB.c2, KB.c3⟩; first | (have bxB := (Box.new _ #[.int .i64 0, .slice none 0 0, .slice none 0 0, .slice none 0 0] 28).below hbB; (try simp at bxB); obtain ⟨⟨x0, x1, x2, x3⟩, f0, f1, f2, f3⟩ := bxB.cells) | (have bxB := bxA.below hbB; obtain ⟨⟨x4, x5, x6, x7⟩, f4, f5, f6, f7⟩ := bxB.cells) | skip))
  all_goals
    go_wp2
    go_ret
    have zW := KB.hb.size
    have zAlt := KA.lt
    first
      | exact one_node (set4_below KB.hb (by omega)) ((hat.move fun b hb hlt => set4_heap (by simp at hb; omega)).mono fun b hb _ => (by simp at hb; omega)) (by simp)
      | exact one_node (set4_below KB.hb (by omega)) ((hat.move fun b hb hlt => set4_heap (by omega)).mono fun b hb _ => (by omega)) (by simp)
      | exact one_node (bl_alloc KB.hb _) ((hat.move fun b hb hlt => (bl_alloc (Below.refl _ _) _).block b hlt).mono fun b hb _ => (by omega)) (by simp)
end
end Go.Proofs.T
namespace Go.Proofs.T
open Go.RowKit
section
variable {α : Type} {L : Ly α} {w : World} {ok : Nat → Prop}
theorem Parts.put : ∀ {xs : List α} {cs : List Value}, Parts L w ok xs cs → ∀ i x c, i < xs.length → L.K w ok x c → Parts L w ok (xs.set i x) (cs.take (i * L.sz) ++ c ++ cs.drop (i * L.sz + L.sz))
  | [], _, _, i, x, _, hx, _ => by simp at hx
  | y :: ys, _, ⟨d, e, h, h1, h2⟩, 0, x, c, _, hk => by
    refine ⟨c, e, ?_, hk, h2⟩
    rw [h, Nat.zero_mul, Nat.zero_add, List.take_zero, List.nil_append, List.drop_append_of_le_length (by rw [L.len h1]; exact Nat.le_refl _), List.drop_of_length_le (by rw [L.len h1]; exact Nat.le_refl _), List.nil_append]
  | y :: ys, _, ⟨d, e, h, h1, h2⟩, i + 1, x, c, hx, hk => by
    have := Parts.put h2 i x c (by simpa using hx) hk
    refine ⟨d, _, ?_, h1, this⟩
    have hl := L.len h1
    rw [h, Nat.succ_mul, show i * L.sz + L.sz = d.length + i * L.sz by omega, List.take_length_add_append, show d.length + i * L.sz + L.sz = d.length + (i * L.sz + L.sz) by omega, List.drop_length_add_append]
    simp only [List.append_assoc]
    rw [show i * L.sz + L.sz = d.length + i * L.sz by omega]
end
theorem put_one (cs : List Value) (k : Nat) (v : Value) (h : k < cs.length) : cs.take (k * 1) ++ [v] ++ cs.drop (k * 1 + 1) = cs.set k v := by
  rw [List.set_eq_take_append_cons_drop, if_pos h]
  simp
theorem form_round {wr w2 : World} {ok : Nat → Prop} {B g n cap k : Nat} {xs : List (List Node)} {ct cs' : List Value} {y : List Node} {A' : Option Addr} {c' : Nat}
    (hown : wr.ownsRow B 22 1 (.slice (some ⟨g, 0, none⟩) n cap) n ct) (hp : Parts lNodes wr (okF ok B (.slice (some ⟨g, 0, none⟩) n cap)) xs ct) (hk : k < xs.length) (hB : B ≤ wr.heap.size) (hg : g < wr.heap.size)
    (ho' : w2.ownsRow wr.heap.size 28 4 (.slice A' y.length c') y.length cs') (hp' : Parts lNode w2 (okF (okF ok B (.slice (some ⟨g, 0, none⟩) n cap)) wr.heap.size (.slice A' y.length c')) y cs') (hb' : Below wr.heap.size wr w2) (hy : y.length ≤ 1000000000) :
    ∃ ct', (w2.setCell ⟨g, k, none⟩ (.slice A' y.length c')).ownsRow B 22 1 (.slice (some ⟨g, 0, none⟩) n cap) n ct' ∧ Parts lNodes (w2.setCell ⟨g, k, none⟩ (.slice A' y.length c')) (okF ok B (.slice (some ⟨g, 0, none⟩) n cap)) (xs.set k y) ct' := by
  have hcl := hp.len
  simp only [show lNodes.sz = 1 from rfl, Nat.mul_one] at hcl
  have hne : ∀ b, okF ok B (.slice (some ⟨g, 0, none⟩) n cap) b → b ≠ g := fun b hb e => hb.2 (by rw [e]; rfl)
  obtain ⟨A2, c2, he, hle, hr⟩ := Rd.own (L := lNode) (ok := fun b => okF ok B (.slice (some ⟨g, 0, none⟩) n cap) b ∨ wr.heap.size ≤ b) ho' (hp'.mono fun b hb _ => hb.1) (fun b hb => .inr (own_base ho' b hb)) (by omega)
  injection he with he1 _ he3
  subst he1; subst he3
  have hr2 := (hr.move (w' := w2.setCell ⟨g, k, none⟩ (.slice A' y.length c')) (by decide) fun b hb _ => heap_setCell_other _ _ _ _ (by
    rcases hb with hb | hb
    · exact hne b hb
    · show b ≠ g; omega)).mono (ok' := okF ok B (.slice (some ⟨g, 0, none⟩) n cap)) (by decide) fun b hb _ => by
      rcases hb with hb | hb
      · exact hb
      · exact ⟨.inr (by omega), fun e => by
          have : g = b := by simpa [Value.ownBlock] using e
          omega⟩
  have p1 := ((hp.move (w' := w2) fun b _ hlt => hb'.block b hlt).move (w' := w2.setCell ⟨g, k, none⟩ (.slice A' y.length c')) fun b hb _ => heap_setCell_other _ _ _ _ (hne b hb)).put k y [.slice A' y.length c'] hk ⟨A', c', rfl, hle, hr2⟩
  simp only [show lNodes.sz = 1 from rfl] at p1
  rw [put_one ct k _ (by omega)] at p1
  exact ⟨_, ((own_below hown hb').stored k _).1, p1⟩
end Go.Proofs.T
namespace Go.Proofs.T
open Go.RowKit
def mixL (F : List Node → List Node) (kids : List (List Node)) (k : Nat) : List (List Node) := (kids.take k).map F ++ kids.drop k
theorem mixL_len (F : List Node → List Node) (kids : List (List Node)) (k : Nat) : (mixL F kids k).length = kids.length := by
  unfold mixL; rw [List.length_append, List.length_map, List.length_take, List.length_drop]; omega
theorem mixL_at (F : List Node → List Node) (kids : List (List Node)) (k : Nat) (h : k < kids.length) : (mixL F kids k)[k]? = some kids[k] := by
  unfold mixL
  rw [List.getElem?_append_right (by rw [List.length_map, List.length_take]; omega), List.length_map, List.length_take, Nat.min_eq_left (by omega), Nat.sub_self, List.getElem?_drop]
  simp
theorem mixL_set (F : List Node → List Node) (kids : List (List Node)) (k : Nat) (h : k < kids.length) : (mixL F kids k).set k (F kids[k]) = mixL F kids (k + 1) := by
  unfold mixL
  have hl : ((kids.take k).map F).length = k := by rw [List.length_map, List.length_take]; omega
  rw [List.set_append_right _ _ (by omega), hl, Nat.sub_self, List.drop_eq_getElem_cons h, List.set_cons_zero, List.take_succ_eq_append_getElem h, List.map_append, List.append_assoc]
  rfl
theorem mixL_zero (F : List Node → List Node) (kids : List (List Node)) : mixL F kids 0 = kids := by unfold mixL; simp
theorem mixL_all (F : List Node → List Node) (kids : List (List Node)) : mixL F kids kids.length = kids.map F := by unfold mixL; simp
/-- What form does, for arrays of up to f nodes. -/
def FormIH (f : Nat) : Prop := ∀ (k : List Node), k.length ≤ f → k.length ≤ 1000000000 → rightA k = true → NodesOk k → InOk k → ∀ (A : Option Addr) (c : Nat) (ok : Nat → Prop) (W : World), Rd lNode W ok A k.length k → k.length ≤ c → Calls Tryz.prog 44 #[.slice A k.length c] W (FormPost W ok (formN f k))
theorem size_al (W : World) (o : Obj) : (W.alloc o).heap.size = W.heap.size + 1 := by simp
theorem Keep4.set {w W : World} {v0 v1 v2 v3 : Value} {g i : Nat} {u : Value} (h : Keep4 w v0 v1 v2 v3 W) (hg : w.heap.size < g) : Keep4 w v0 v1 v2 v3 (W.setCell ⟨g, i, none⟩ u) := by
  have hc : ∀ j, (W.setCell ⟨g, i, none⟩ u).cell? ⟨w.heap.size, j, none⟩ = W.cell? ⟨w.heap.size, j, none⟩ := fun j => World.cell?_of_block (a := ⟨w.heap.size, j, none⟩) (heap_setCell_other _ _ _ _ (by show w.heap.size ≠ g; omega))
  exact ⟨bl_set h.hb (Nat.le_of_lt hg) _, by have := h.lt; simpa [World.setCell] using this, (hc _).trans h.c0, (hc _).trans h.c1, (hc _).trans h.c2, (hc _).trans h.c3⟩
theorem own_rd {w : World} {base T c : Nat} {A : Option Addr} {xs : List Node} {cs : List Value} {ok : Nat → Prop} (ho : w.ownsRow base 28 4 (.slice A T c) T cs) (hp : Parts lNode w (okF ok base (.slice A T c)) xs cs) (hT : xs.length = T) (hm : T ≤ 1000000000) : T ≤ c ∧ Rd lNode w (fun b => ok b ∨ base ≤ b) A T xs := by
  subst hT
  obtain ⟨A2, c2, he, hle, hr⟩ := Rd.own (L := lNode) (ok := fun b => ok b ∨ base ≤ b) ho (hp.mono fun b hb _ => hb.1) (fun b hb => .inr (own_base ho b hb)) (by omega)
  injection he with he1 _ he3
  subst he1; subst he3
  exact ⟨hle, hr⟩
theorem own_new4 {w : World} {base : Nat} {a b c d : Value} (h : base ≤ w.heap.size) : (w.alloc (.cells #[a, b, c, d] 28)).ownsRow base 28 4 (.slice (some ⟨w.heap.size, 0, none⟩) 1 1) 1 [a, b, c, d] :=
  ⟨rfl, .inr ⟨w.heap.size, 1, _, rfl, h, heap_alloc_new w _, Nat.le_refl _, by decide, rfl, rfl⟩⟩
/-- The nest of the kids behind one another. -/
theorem form_tail {w w4 w5 w6 : World} {ok : Nat → Prop} {R T c9 m : Nat} {A9 : Option Addr} {s : List Int} {ys : List Node} {v1 : Value} {ds : List Value} (hT : ys.length = T) (hR : R ≤ w4.heap.size) (hw : w.heap.size ≤ w4.heap.size) (hm : w.heap.size ≤ m)
    (h9 : s.length ≤ c9 ∧ Rd Ly.i64 w4 (fun b => m ≤ b) A9 s.length s) (hb5 : Below (w4.heap.size + 1) (w4.alloc (.cells #[.int .i64 5, .slice A9 s.length c9, .slice none 0 0, .slice none 0 0] 28)) w5)
    (hp : Parts lNode w5 (fun b => ((ok b ∨ w.heap.size ≤ b) ∧ b < R) ∨ w4.heap.size + 1 ≤ b) ys ds) (ho : w6.ownsRow w.heap.size 28 4 v1 (1 + T) ([.int .i64 5, .slice A9 s.length c9, .slice none 0 0, .slice none 0 0] ++ ds))
    (hb : Below w.heap.size w w6) (hg : w5.grownBy w6 (Value.slice (some ⟨w4.heap.size, 0, none⟩) 1 1).ownBlock) (hat : v1.ownBlock = (Value.slice (some ⟨w4.heap.size, 0, none⟩) 1 1).ownBlock ∨ ∃ b, v1.ownBlock = some b ∧ w5.heap.size ≤ b) :
    FormPost w ok (⟨5, s, [], []⟩ :: ys) (.returned v1) w6 := by
  have hne : ∀ b, (Value.slice (some ⟨w4.heap.size, 0, none⟩) 1 1).ownBlock = some b → w4.heap.size = b := fun b e => by simpa [Value.ownBlock] using e
  have r9 : Rd Ly.i64 w5 (okF ok w.heap.size (.slice (some ⟨w4.heap.size, 0, none⟩) 1 1)) A9 s.length s :=
    (((h9.2.mono (ok' := fun b => m ≤ b ∧ b < w4.heap.size) (by decide) fun b h1 h2 => ⟨h1, h2⟩).alloc (by decide) _).move (by decide) fun b hb _ => hb5.block b (by omega)).mono (by decide) fun b hb _ => ⟨.inr (by omega), fun e => by have := hne b e; omega⟩
  have p1 : Parts lNode w5 (okF ok w.heap.size (.slice (some ⟨w4.heap.size, 0, none⟩) 1 1)) [⟨5, s, [], []⟩] [.int .i64 5, .slice A9 s.length c9, .slice none 0 0, .slice none 0 0] :=
    Parts.single ⟨[_], [_, _, _], rfl, rfl, [_], [_, _], rfl, ⟨A9, c9, rfl, h9.1, r9⟩, [_], [_], rfl, ⟨none, 0, rfl, Nat.le_refl _, Rd.nil _ _ _ _⟩, none, 0, rfl, Nat.le_refl _, Rd.nil _ _ _ _⟩
  have p2 := hp.mono (ok' := okF ok w.heap.size (.slice (some ⟨w4.heap.size, 0, none⟩) 1 1)) fun b hb _ => ⟨by
    rcases hb with hb | hb
    · exact hb.1
    · exact .inr (by omega), fun e => by have := hne b e; omega⟩
  refine ⟨v1, _, rfl, ?_, (p1.append p2).grown hg hat, hb⟩
  rw [List.length_cons, hT, Nat.add_comm]
  exact ho
section
variable (b o c f : Nat) (n : Node) (rest : List Node) (ok : Nat → Prop) (w : World)
set_option maxHeartbeats 4000000 in
set_option maxRecDepth 100000 in
theorem form_nest (h : Rd lNode w ok (some ⟨b, o, none⟩) (n :: rest).length (n :: rest)) (hcap : (n :: rest).length ≤ c) (hx : NodesOk (n :: rest)) (hin : InOk (n :: rest)) (hlen : (n :: rest).length ≤ 1000000000) (hf : rest.length ≤ f) (hr : rightA (n :: rest) = true) (hk5 : n.kind = 5) (hok : ∀ b, ok b → b < w.heap.size) (IH : FormIH f) :
    Calls Tryz.prog 44 #[.slice (some ⟨b, o, none⟩) (n :: rest).length c] w (FormPost w ok (formN (f + 1) (n :: rest))) := by
  obtain ⟨A1, c1, A2, c2, A3, c3, q0, q1, q2, q3, r5, r6, r7, m1, m2, m3⟩ := h.at4 0 (by simp)
  simp only [Nat.zero_mul, Nat.add_zero, List.getElem_cons_zero] at q0 q1 q2 q3 r5 r6 r7 m1 m2 m3
  have HS := Lib.hid r5
  have HI := Lib.hid (hin n (by simp))
  have k1 : (n.kind == 3) = false := by rw [hk5]; rfl
  have k2 : (n.kind == 5) = true := by rw [hk5]; rfl
  have hkids := fun q => kids_some b o c n rest ok _ (h.alloc (by decide) q) hcap hx hlen hin hr hk5 (fun b hb => by have := hok b hb; simp; omega)
  have hres : formN (f + 1) (n :: rest) = if (joinedN n.shape ((kidsL (rest.length + 1) rest).map (formN f))).2 = true then [(joinedN n.shape ((kidsL (rest.length + 1) rest).map (formN f))).1] else ⟨5, n.shape, [], []⟩ :: ((kidsL (rest.length + 1) rest).map (formN f)).flatten := by
    rw [formN, if_neg (by rw [hk5]; decide), if_pos hk5]
  have hK := KidsC.of hr hk5
  have hsp := kidsL_spec (rest.length + 1) (itemsN n) rest (by omega) hK.2
  have hc1 : (kidsL (rest.length + 1) rest).length ≤ 1048576 := by
    have := countS_bd n.shape
    have := (items_pos hK.1).1
    omega
  have hkid : ∀ k ∈ kidsL (rest.length + 1) rest, k.length ≤ f ∧ k.length ≤ 1000000000 ∧ rightA k = true ∧ NodesOk k ∧ InOk k := fun k hk => by
    have h6 := hsp.2.2 k hk
    have hm : ∀ x ∈ k, x ∈ rest := fun x hx => by rw [← hsp.2.1]; exact List.mem_flatten.2 ⟨k, hk, hx⟩
    simp only [List.length_cons] at hlen
    exact ⟨by omega, by omega, h6.1, fun x hx' => hx x (List.mem_cons_of_mem _ (hm x hx')), fun x hx' => hin x (List.mem_cons_of_mem _ (hm x hx'))⟩
  have hfit : ∀ k ∈ kidsL (rest.length + 1) rest, FormFit (formN f k) k.length := fun k hk => by
    have h6 := hkid k hk
    exact formN_fit f k h6.1 h6.2.1 h6.2.2.1 h6.2.2.2.1 h6.2.2.2.2
  have hflat : ((kidsL (rest.length + 1) rest).map (formN f)).flatten.length ≤ 999999999 := by
    have := sum_le (f := formN f) (ks := kidsL (rest.length + 1) rest) fun k hk => (hfit k hk).le
    rw [hsp.2.1] at this
    simp only [List.length_cons] at hlen
    omega
  simp only [List.length_cons] at hkids ⊢
  rw [hres]
  clear hres hsp h hx hin hr r5 r6 r7 hK hcap
  generalize kidsL (rest.length + 1) rest = kids at hkids hc1 hkid hfit hflat ⊢
  have HKS := Lib.hid hkids
  have HK := Lib.hid (And.intro hc1 (And.intro hkid (And.intro hfit hflat)))
  clear hkids hc1 hkid hfit hflat
  have HIH := Lib.hid IH
  have HOK := Lib.hid hok
  clear IH hok hk5
  obtain ⟨P, hP⟩ : ∃ P, P = FormPost w ok (if (joinedN n.shape (kids.map (formN f))).2 = true then [(joinedN n.shape (kids.map (formN f))).1] else ⟨5, n.shape, [], []⟩ :: (kids.map (formN f)).flatten) := ⟨_, rfl⟩
  rw [← hP]
  have HP := Lib.hid hP; clear hP
  go_enter Tryz.func44, Tryz.ntmps44
  go_wp2_with (go_at_call 9; refine (HKS.out _).mono ?_; rintro e w1 ⟨v, cs, rfl, h1, h2, h3⟩; obtain ⟨A0, c0, rfl⟩ := own_form h1; rw [size_al] at h1 h2; have K1 : Keep4 w (.int .i64 n.kind) (.slice A1 n.shape.length c1) (.slice A2 n.ints.length c2) (.slice A3 n.decs.length c3) w1 := Keep4.below ⟨bl_alloc (Below.refl _ _) _, by simp, by simp, by simp, by simp, by simp⟩ h3)
  go_loopg [5, 25] kids.length (fun gg _ i wr => ∃ (k : Nat) (ct : List Value), k ≤ kids.length ∧ gg = kids.length - k ∧ i = .int .i64 k ∧ wr.ownsRow (w.heap.size + 1) 22 1 (.slice A0 kids.length c0) kids.length ct ∧ Hid (Parts lNodes wr (okF ok (w.heap.size + 1) (.slice A0 kids.length c0)) (mixL (formN f) kids k) ct) ∧ Keep4 w (.int .i64 n.kind) (.slice A1 n.shape.length c1) (.slice A2 n.ints.length c2) (.slice A3 n.decs.length c3) wr)
  case atStart => exact ⟨0, cs, by omega, by omega, rfl, h1, by rw [mixL_zero]; exact h2, K1⟩
  case round =>
    clear h1 h2 h3 K1
    have hc1 := HK.out.1
    obtain ⟨k, ct, hk, rfl, rfl, hown, hparts, K⟩ := hrel
    by_cases hlt : k < kids.length
    · obtain ⟨g, cap, he, hgb, hgl⟩ := hown.form (Nat.zero_lt_of_lt hlt)
      injection he with he1 he2 he3
      subst he1; subst he3
      obtain ⟨q, ⟨B1, d1, rfl, l1, r1⟩, hq⟩ := hparts.out.get k kids[k] (mixL_at _ _ k hlt)
      have hcl := hparts.out.len
      simp only [show lNodes.sz = 1 from rfl, Nat.mul_one, mixL_len] at hq hcl
      have e0 := (hown.cellAt k (by rw [Nat.mul_one]; exact hlt)).trans (hq 0 _ rfl)
      have f0 := hown.frozenAt k
      have hset : Hid ((mixL (formN f) kids k).set k (formN f kids[k]) = mixL (formN f) kids (k + 1)) := mixL_set _ _ k hlt
      have hkid := HK.out.2.1 kids[k] (List.getElem_mem hlt)
      have hfit := (HK.out.2.2.1 kids[k] (List.getElem_mem hlt)).le
      have hcall := HIH.out kids[k] hkid.1 hkid.2.1 hkid.2.2.1 hkid.2.2.2.1 hkid.2.2.2.2 B1 d1 _ wr r1 l1
      have hyl : Hid ((formN f kids[k]).length ≤ 1000000000) := Nat.le_trans hfit hkid.2.1
      generalize formN f kids[k] = y at hset hcall hyl
      generalize kids[k].length = m at e0 hcall
      have HC := Lib.hid hcall
      have HO := Lib.hid hown
      clear hcall hkid hfit l1 r1 hq hown
      obtain ⟨t0, t1, t2, t3⟩ : _ ∧ _ ∧ _ ∧ _ := ⟨K.c0, K.c1, K.c2, K.c3⟩
      go_wp2_with (go_at_call 44; refine HC.out.mono ?_; rintro e w2 ⟨v', cs', rfl, ho', hp', hb'⟩; obtain ⟨A', c', rfl⟩ := own_form ho'; have e2 := (hb'.cell hgl).trans e0; have f2 := (hb'.frozen hgl).trans f0; have hg2 := Nat.lt_of_lt_of_le hgl hb'.size)
      go_roundg (kids.length - (k + 1))
      case measure => omega
      case rel =>
        have hB : w.heap.size + 1 ≤ wr.heap.size := K.lt
        obtain ⟨ct', k1, k2⟩ := form_round HO.out hparts.out (Nat.lt_of_lt_of_eq hlt (mixL_len (formN f) kids k).symm) hB hgl ho' hp' hb' hyl.out
        rw [hset.out] at k2
        exact ⟨k + 1, ct', by omega, rfl, by go_num, k1, k2, (K.below hb').set (by omega)⟩
    · have hkn : k = kids.length := by omega
      subst hkn
      rw [mixL_all] at hparts
      obtain ⟨ys, hys⟩ : ∃ ys, ys = kids.map (formN f) := ⟨_, rfl⟩
      have hly : ys.length = kids.length := by rw [hys, List.length_map]
      have hj : Hid (∀ k ∈ ys, JoinOk k) := fun k hk => by
        rw [hys] at hk
        obtain ⟨k0, h6, rfl⟩ := List.mem_map.1 hk
        exact (HK.out.2.2.1 k0 h6).join
      have hflat : Hid (ys.flatten.length ≤ 999999999) := by rw [hys]; exact HK.out.2.2.2
      rw [← hys] at hparts HP
      clear hys HK HIH hlt hk HKS
      rw [← hly] at hown hc1 hparts ⊢
      obtain ⟨A9, c9, he, hle, hrow⟩ := Rd.own (L := lNodes) (ok := fun b => (ok b ∨ w.heap.size ≤ b) ∧ b < wr.heap.size) hown ((hparts.out.mono (ok' := fun b => okF ok (w.heap.size + 1) (.slice A0 ys.length c0) b ∧ b < wr.heap.size) fun b hb hlt => ⟨hb, hlt⟩).mono fun b hb _ => ⟨hb.1.1.elim Or.inl (fun h => Or.inr (by omega)), hb.2⟩) (fun b hb => ⟨.inr (by have := own_base hown b hb; omega), own_lt hown hb⟩) (by omega)
      injection he with he1 _ he3
      subst he1; subst he3
      have HJO := Lib.hid (joined_any n.shape ys A1 A0 c1 c0 (fun _ => True) wr ((HS.out.below (by decide) K.hb).mono (by decide) fun _ _ _ => trivial) (hrow.mono (by decide) fun _ _ _ => trivial) hj.out HI.out.1 (by omega))
      have HR := Lib.hid hrow
      clear hparts hrow hown hj hly
      obtain ⟨t0, t1, t2, t3⟩ : _ ∧ _ ∧ _ ∧ _ := ⟨K.c0, K.c1, K.c2, K.c3⟩
      generalize joinedN n.shape ys = res at HJO HP
      obtain ⟨n', b'⟩ := res
      cases b' with
      | true =>
        simp only [if_true] at HP
        go_wp2_with (go_at_call 67; refine HJO.out.mono ?_; rintro e w3 ⟨P1, P2, P3, g1, g2, g3, rfl, hat, hb3⟩; simp only [nodeV, nodeW]; have K3 := K.below hb3; obtain ⟨s0, s1, s2, s3⟩ : _ ∧ _ ∧ _ ∧ _ := ⟨K3.c0, K3.c1, K3.c2, K3.c3⟩)
        rw [HP.out]
        exact one_node (bl_alloc K3.hb _) ((hat.move fun b hb hlt => (bl_alloc (Below.refl _ _) _).block b hlt).mono fun b hb _ => (by have := K.lt; omega)) (by simp)
      | false =>
        simp only [if_false, Bool.false_eq_true] at HP
        obtain ⟨T, hT⟩ : ∃ T, Hid (ys.flatten.length = T) := ⟨_, rfl⟩
        have HCC := Lib.hid (fun W hW => concat_any A0 c0 ys (fun b => (ok b ∨ w.heap.size ≤ b) ∧ b < wr.heap.size) W (HR.out.below (by decide) (hW : Below wr.heap.size wr W)) (by omega) (Nat.le_trans hflat.out (by decide)))
        rw [hT.out] at HCC
        have hTl := hflat.out
        rw [hT.out] at hTl
        go_wp2_with (first
          | (go_at_call 67; refine HJO.out.mono ?_; rintro e w3 ⟨P1, P2, P3, g1, g2, g3, rfl, hat, hb3⟩; simp only [nodeV, nodeW]; have K3 := K.below hb3; obtain ⟨s0, s1, s2, s3⟩ : _ ∧ _ ∧ _ ∧ _ := ⟨K3.c0, K3.c1, K3.c2, K3.c3⟩; have hz3 := K3.lt)
          | (go_at_call 38; refine (cloneI_rd A1 c1 n.shape ok _ (HS.out.below (by decide) (K3.alloc _).hb) HI.out.1).mono ?_; rintro e w4 ⟨A9, c9, rfl, h9, hb4⟩)
          | (go_at_call 68; refine (HCC.out _ (bl_alloc (bl_trans hb4 (bl_alloc hb3 _)) _)).mono ?_; rintro e w5 ⟨v5, cs5, rfl, ho5, hp5, hb5⟩; obtain ⟨A5, c5, rfl⟩ := own_form ho5; have hb5w := hb5; rw [size_al] at ho5 hp5 hb5; have hr5 := (own_rd ho5 hp5 hT.out (by omega)).2; have zz3 := hb3.size; have zz4 := hb4.size; have zz5 := hb5.size; rw [size_al] at zz4 zz5; have hz0 := K.lt; have ho1 := own_move (own_new4 (w := w4) (base := w.heap.size) (a := .int .i64 5) (b := .slice A9 n.shape.length c9) (c := .slice none 0 0) (d := .slice none 0 0) (by omega)) (W := w5) (fun b hb => hb5.block b (by have : w4.heap.size = b := (by simpa [Value.ownBlock] using hb); omega)))
          | (at_builtin; refine app_row (L := lNode) w.heap.size rfl (.tmp 51) (.tmp 53) 22 28 (.agg #[.int .i64 0, .slice none 0 0, .slice none 0 0, .slice none 0 0]) 80 rfl Tryz.underlying22 info28 rfl (by decide) (.slice (some ⟨w4.heap.size, 0, none⟩) 1 1) 1 [.int .i64 5, .slice A9 n.shape.length c9, .slice none 0 0, .slice none 0 0] rfl (fun b => ((ok b ∨ w.heap.size ≤ b) ∧ b < wr.heap.size) ∨ w4.heap.size + 1 ≤ b) A5 T c5 ys.flatten rfl hr5 ho1 (Below.refl _ _) (by omega) (by simp only [maxLen]; omega) (by omega) ?_; intro v1 w6 ds hp6 hown6 hb6 hg6 hat6))
        rw [HP.out]
        exact form_tail hT.out (by omega) (by omega) (by have := K3.lt; simp; omega) h9 hb5 hp6 hown6 ((bl_trans hb5w (bl_alloc (bl_trans hb4 (bl_alloc K3.hb _)) _)).trans hb6) hg6 hat6
end
end Go.Proofs.T
namespace Go.Proofs.T
open Go.RowKit
theorem FormPost.mono {w w' : World} {ok ok' : Nat → Prop} {r : List Node} {e : Ending} (h : FormPost w ok r e w') (hok : ∀ b, ok b → ok' b) : FormPost w ok' r e w' := by
  obtain ⟨v, cs, rfl, h1, h2, h3⟩ := h
  exact ⟨v, cs, rfl, h1, h2.mono fun b hb _ => ⟨hb.1.imp (hok b) id, hb.2⟩, h3⟩
theorem form_all : ∀ f, FormIH f
  | 0 => fun k hf _ hr => by have := ((rightA_iff k).1 hr).1; omega
  | f + 1 => fun k hf hl hr hx hi A c ok W h hc => by
    cases k with
    | nil => have := ((rightA_iff []).1 hr).1; simp at this
    | cons n rest =>
      obtain ⟨b, o, rfl, _⟩ := h.row (by simp)
      have h' : Rd lNode W (fun b => ok b ∧ b < W.heap.size) (some ⟨b, o, none⟩) (n :: rest).length (n :: rest) := h.mono (by decide) fun b hb hlt => ⟨hb, hlt⟩
      by_cases h3 : n.kind = 3
      · rw [formN, if_pos h3]
        exact form_char b o c n rest ok W h hx hi hl h3
      · by_cases h5 : n.kind = 5
        · exact (form_nest b o c f n rest _ W h' hc hx hi hl (by simp only [List.length_cons] at hf; omega) hr h5 (fun b hb => hb.2) (form_all f)).mono fun e w' hp => hp.mono fun b hb => hb.1
        · rw [formN, if_neg h3, if_neg h5]
          exact form_nums b o c n rest ok W h hx hi h3 h5
def formA (a : List Node) : List Node := formN a.length a
set_option maxHeartbeats 400000 in
/-- tight.Make of nodes that are an array. -/
theorem make_right (A : Option Addr) (c : Nat) (a : List Node) (ok : Nat → Prop) (w : World) (h : Rd lNode w ok A a.length a) (hc : a.length ≤ c) (hx : NodesOk a) (hin : InOk a) (hlen : a.length ≤ 1000000000) (hr : rightA a = true) :
    Calls Tryz.prog 20 #[.slice A a.length c] w fun e w' => ∃ v cs, e = .returned (.tuple #[v, .bool true]) ∧ w'.ownsRow w.heap.size 28 4 v (formA a).length cs ∧ Parts lNode w' (okF ok w.heap.size v) (formA a) cs ∧ Below w.heap.size w w' := by
  have hra := arrayRight_any A c a ok w h hx hlen
  rw [hr] at hra
  have HA := Lib.hid hra
  have HF := Lib.hid (fun W hW => form_all a.length a (Nat.le_refl _) hlen hr hx hin A c ok W (h.below (by decide) (hW : Below w.heap.size w W)) hc)
  clear hra h hx hin hr hc
  unfold formA
  generalize formN a.length a = r at HF ⊢
  go_enter Tryz.func20, Tryz.ntmps20
  go_wp2_with (first
    | (go_at_call 22; refine HA.out.mono ?_; rintro e w1 ⟨rfl, hb1⟩)
    | (go_at_call 44; refine (HF.out _ hb1).mono ?_; rintro e w2 hp; obtain ⟨v, cs, rfl, h1, h2, h3⟩ := hp.later hb1))
  go_ret2
  exact ⟨v, cs, rfl, h1, h2, h3⟩
set_option maxHeartbeats 400000 in
theorem make_wrong (A : Option Addr) (c : Nat) (a : List Node) (ok : Nat → Prop) (w : World) (h : Rd lNode w ok A a.length a) (hx : NodesOk a) (hlen : a.length ≤ 1000000000) (hr : rightA a = false) :
    Calls Tryz.prog 20 #[.slice A a.length c] w fun e w' => e = .returned (.tuple #[.slice none 0 0, .bool false]) ∧ Below w.heap.size w w' := by
  have hra := arrayRight_any A c a ok w h hx hlen
  rw [hr] at hra
  have HA := Lib.hid hra
  clear hra h hx hr
  go_enter Tryz.func20, Tryz.ntmps20
  go_wp2_with (go_at_call 22; refine HA.out.mono ?_; rintro e w1 ⟨rfl, hb1⟩)
  go_ret2
  exact ⟨rfl, hb1⟩
end Go.Proofs.T
namespace Go.Proofs.T
open Go.RowKit
/-- slices.Equal of whole numbers. -/
theorem eqI_any (A B : Option Addr) (c d : Nat) (xs ys : List Int) (ok ok2 : Nat → Prop) (w : World) (h1 : Rd Ly.i64 w ok A xs.length xs) (h2 : Rd Ly.i64 w ok2 B ys.length ys) :
    Calls Tryz.prog 47 #[.slice A xs.length c, .slice B ys.length d] w fun e w' => e = .returned (.bool (xs == ys)) ∧ Below w.heap.size w w' := by
  by_cases hl : xs.length = ys.length
  · rcases h1.ways with ⟨h0, rfl⟩ | ⟨h0, b1, o1, rfl⟩
    · obtain rfl : ys = [] := List.eq_nil_of_length_eq_zero (by simpa using hl.symm)
      exact (Tryz.slices_Equal_int_empty A B c 0 d w (by omega)).mono fun e w' ⟨h3, h4⟩ => ⟨by rw [h3]; rfl, h4 ▸ Below.refl _ _⟩
    · rcases h2.ways with ⟨h0', _⟩ | ⟨_, b2, o2, rfl⟩
      · omega
      · refine (Tryz.slices_Equal_int b1 o1 xs.length c b2 o2 ys.length d xs ys w (Nat.le_refl _) (Nat.le_refl _) h1.max h2.max h1.getI h2.getI).mono ?_
        rintro e w' ⟨rfl, q, rfl⟩
        exact ⟨by rw [List.take_length, List.take_length], bl_drewN (Below.refl _ _) q⟩
  · refine (Tryz.slices_Equal_int_lens A B xs.length c ys.length d w hl).mono ?_
    rintro e w' ⟨rfl, rfl⟩
    exact ⟨by congr 2; exact (beq_eq_false_iff_ne.2 fun h => hl (by rw [h])).symm, Below.refl _ _⟩
attribute [local go_sem high] eqA39
set_option maxHeartbeats 2000000 in
theorem eqD_lens (A B : Option Addr) (n m c d : Nat) (w : World) (h : n ≠ m) : Calls Tryz.prog 48 #[.slice A n c, .slice B m d] w fun e w' => e = .returned (.bool false) ∧ w = w' := by
  have k1 : ((n : Int) != (m : Int)) = true := by simp; omega
  go_enter Tryz.func48, Tryz.ntmps48
  go_wp2
  go_ret
  exact ⟨rfl, rfl⟩
theorem take_eq_succ {α : Type} {xs ys : List α} {k : Nat} (h1 : k < xs.length) (h2 : k < ys.length) (h : xs.take k = ys.take k) (he : xs[k] = ys[k]) : xs.take (k + 1) = ys.take (k + 1) := by
  rw [List.take_succ_eq_append_getElem h1, List.take_succ_eq_append_getElem h2, h, he]
set_option maxHeartbeats 4000000 in
theorem eqD_same (A B : Option Addr) (c d : Nat) (xs ys : List Dec) (ok ok2 : Nat → Prop) (w : World) (h1 : Rd lDec w ok A xs.length xs) (h2 : Rd lDec w ok2 B ys.length ys) (hl : ys.length = xs.length) :
    Calls Tryz.prog 48 #[.slice A xs.length c, .slice B xs.length d] w fun e w' => e = .returned (.bool (xs == ys)) ∧ Below w.heap.size w w' := by
  have k1 : ((xs.length : Int) != (xs.length : Int)) = false := by simp
  have hm := h1.max
  have H1 := Lib.hid h1; have H2 := Lib.hid h2; have HL := Lib.hid hl
  clear h1 h2 hl
  go_enter Tryz.func48, Tryz.ntmps48
  go_wp2
  go_loopg [5, 13] xs.length (fun gg _ i wr => ∃ k : Nat, k ≤ xs.length ∧ gg = xs.length - k ∧ i = .int .i64 k ∧ Hid (xs.take k = ys.take k) ∧ Below w.heap.size w wr)
  case atStart => exact ⟨0, by omega, by omega, rfl, rfl, Below.refl _ _⟩
  case round =>
    obtain ⟨k, hk, rfl, rfl, heq, hb⟩ := hrel
    by_cases hlt : k < xs.length
    · have hlt2 : k < ys.length := by rw [HL.out]; exact hlt
      obtain ⟨b1, o1, hA, _⟩ := H1.out.row (by omega)
      subst hA
      obtain ⟨b2, o2, hB, _⟩ := H2.out.row (by omega)
      subst hB
      obtain ⟨e0, e1⟩ := (H1.out.below (by decide) hb).atD k hlt
      obtain ⟨e2, e3⟩ := (H2.out.below (by decide) hb).atD k hlt2
      have hst : Hid (∀ h : xs[k] = ys[k], xs.take (k + 1) = ys.take (k + 1)) := fun h => take_eq_succ hlt hlt2 heq.out h
      have hno : Hid (xs[k] ≠ ys[k] → (xs == ys) = false) := fun h => beq_eq_false_iff_ne.2 fun h' => h (by subst h'; rfl)
      generalize xs[k] = x at e0 e1 hst hno
      generalize ys[k] = y at e2 e3 hst hno
      clear hlt2
      have hb' : Below w.heap.size w wr.drew := bl_drew hb
      have E0 : wr.drew.cell? ⟨b1, o1 + k * 2, none⟩ = some (.int .i64 x.man) := e0
      have E1 : wr.drew.cell? ⟨b1, o1 + k * 2 + 1, none⟩ = some (.int .i64 x.exp) := e1
      have E2 : wr.drew.cell? ⟨b2, o2 + k * 2, none⟩ = some (.int .i64 y.man) := e2
      have E3 : wr.drew.cell? ⟨b2, o2 + k * 2 + 1, none⟩ = some (.int .i64 y.exp) := e3
      by_cases hxy : x = y
      · subst hxy
        have k2 : (x.man == x.man && x.exp == x.exp) = true := by simp
        go_wp2
        go_region_held3 (fun w' => Below w.heap.size w w' ∧ w'.cell? ⟨b1, o1 + k * 2, none⟩ = some (.int .i64 x.man) ∧ w'.cell? ⟨b1, o1 + k * 2 + 1, none⟩ = some (.int .i64 x.exp) ∧ w'.cell? ⟨b2, o2 + k * 2, none⟩ = some (.int .i64 x.man) ∧ w'.cell? ⟨b2, o2 + k * 2 + 1, none⟩ = some (.int .i64 x.exp))
          (refine ⟨?_, ?_, ?_, ?_, ?_⟩ <;> with_reducible assumption)
          (fail)
        go_wp2
        go_roundg (xs.length - (k + 1))
        case measure => omega
        case rel => exact ⟨k + 1, by omega, rfl, by go_num, hst.out (by first | rfl | trivial), hb'⟩
      · have k2 : (x.man == y.man && x.exp == y.exp) = false := by
          rcases x with ⟨a, b⟩; rcases y with ⟨a', b'⟩
          simp only [Dec.mk.injEq, not_and] at hxy
          by_cases h : a = a'
          · simp [hxy h]
          · simp [h]
        go_wp2
        go_region_held3 (fun w' => Below w.heap.size w w' ∧ w'.cell? ⟨b1, o1 + k * 2, none⟩ = some (.int .i64 x.man) ∧ w'.cell? ⟨b1, o1 + k * 2 + 1, none⟩ = some (.int .i64 x.exp) ∧ w'.cell? ⟨b2, o2 + k * 2, none⟩ = some (.int .i64 y.man) ∧ w'.cell? ⟨b2, o2 + k * 2 + 1, none⟩ = some (.int .i64 y.exp))
          (refine ⟨?_, ?_, ?_, ?_, ?_⟩ <;> with_reducible assumption)
          (fail)
        go_wp2
        go_ret
        exact ⟨by rw [hno.out hxy]; rfl, hb'⟩
    · have hkn : k = xs.length := by omega
      subst hkn
      have hfin : Hid ((xs == ys) = true) := by
        have := heq.out
        rw [List.take_length, ← HL.out, List.take_length] at this
        simpa [Hid] using this
      go_wp2
      go_ret
      exact ⟨by rw [hfin.out]; rfl, hb⟩
theorem eqD_any (A B : Option Addr) (c d : Nat) (xs ys : List Dec) (ok ok2 : Nat → Prop) (w : World) (h1 : Rd lDec w ok A xs.length xs) (h2 : Rd lDec w ok2 B ys.length ys) :
    Calls Tryz.prog 48 #[.slice A xs.length c, .slice B ys.length d] w fun e w' => e = .returned (.bool (xs == ys)) ∧ Below w.heap.size w w' := by
  by_cases hl : ys.length = xs.length
  · rw [hl]
    exact eqD_same A B c d xs ys ok ok2 w h1 h2 hl
  · refine (eqD_lens A B xs.length ys.length c d w (fun h => hl h.symm)).mono ?_
    rintro e w' ⟨rfl, rfl⟩
    exact ⟨by congr 2; exact (beq_eq_false_iff_ne.2 fun h => hl (by rw [h])).symm, Below.refl _ _⟩
end Go.Proofs.T
namespace Go.Proofs.T
open Go.RowKit
def eqN (a b : Node) : Bool := a.kind == b.kind && (a.shape == b.shape && (a.ints == b.ints && a.decs == b.decs))
theorem eqN_iff (a b : Node) : eqN a b = true ↔ a = b := by
  obtain ⟨k, s, i, d⟩ := a
  obtain ⟨k', s', i', d'⟩ := b
  simp [eqN]
set_option maxHeartbeats 4000000 in
set_option maxRecDepth 100000 in
theorem same1 (a b : Node) (A1 A2 A3 B1 B2 B3 : Option Addr) (c1 c2 c3 d1 d2 d3 : Nat) (ok ok2 : Nat → Prop) (w : World) (ha : NodeAt w ok a A1 A2 A3 c1 c2 c3) (hb : NodeAt w ok2 b B1 B2 B3 d1 d2 d3) :
    Calls Tryz.prog 46 #[nodeV a A1 A2 A3 c1 c2 c3, nodeV b B1 B2 B3 d1 d2 d3] w fun e w' => e = .returned (.bool (eqN a b)) ∧ Below w.heap.size w w' := by
  have E1 := Lib.hid (fun W hW => eqI_any A1 B1 c1 d1 a.shape b.shape ok ok2 W (ha.r1.below (by decide) (hW : Below w.heap.size w W)) (hb.r1.below (by decide) hW))
  have E2 := Lib.hid (fun W hW => eqI_any A2 B2 c2 d2 a.ints b.ints ok ok2 W (ha.r2.below (by decide) (hW : Below w.heap.size w W)) (hb.r2.below (by decide) hW))
  have E3 := Lib.hid (fun W hW => eqD_any A3 B3 c3 d3 a.decs b.decs ok ok2 W (ha.r3.below (by decide) (hW : Below w.heap.size w W)) (hb.r3.below (by decide) hW))
  unfold eqN nodeV nodeW
  clear ha hb
  generalize (a.shape == b.shape) = p1 at E1 ⊢
  generalize (a.ints == b.ints) = p2 at E2 ⊢
  generalize (a.decs == b.decs) = p3 at E3 ⊢
  obtain ⟨p0, h0⟩ : ∃ p0, (a.kind == b.kind) = p0 := ⟨_, rfl⟩
  rw [h0]
  cases p0
  · go_enter Tryz.func46, Tryz.ntmps46
    go_wp2
    go_ret
    exact ⟨rfl, bl_alloc (bl_alloc (Below.refl _ _) _) _⟩
  · cases p1
    · go_enter Tryz.func46, Tryz.ntmps46
      go_wp2_with (go_at_call 47; refine (E1.out _ (bl_alloc (bl_alloc (Below.refl _ _) _) _)).mono ?_; rintro e w1 ⟨rfl, hb1⟩; obtain ⟨hc1, hf1⟩ := bcell hb1; have z1 := hb1.size; simp at z1; have y1 : w.heap.size < w1.heap.size := (by omega); have x1 : w.heap.size + 1 < w1.heap.size := (by omega))
      go_ret
      exact ⟨rfl, bl_trans hb1 (bl_alloc (bl_alloc (Below.refl _ _) _) _)⟩
    · cases p2
      · go_enter Tryz.func46, Tryz.ntmps46
        go_wp2_with (go_at_call 47; first | (have HH := E1; clear E1; refine (HH.out _ (bl_alloc (bl_alloc (Below.refl _ _) _) _)).mono ?_; rintro e w1 ⟨rfl, hb1⟩; obtain ⟨hc1, hf1⟩ := bcell hb1; have z1 := hb1.size; simp at z1; have y1 : w.heap.size < w1.heap.size := (by omega); have x1 : w.heap.size + 1 < w1.heap.size := (by omega)) | (refine (E2.out _ (bl_trans hb1 (bl_alloc (bl_alloc (Below.refl _ _) _) _))).mono ?_; rintro e w2 ⟨rfl, hb2⟩; obtain ⟨hc2, hf2⟩ := bcell hb2; have z2 := hb2.size))
        go_ret
        exact ⟨rfl, bl_trans hb2 (bl_trans hb1 (bl_alloc (bl_alloc (Below.refl _ _) _) _))⟩
      · go_enter Tryz.func46, Tryz.ntmps46
        go_wp2_with (first
          | (go_at_call 47; first | (have HH := E1; clear E1; refine (HH.out _ (bl_alloc (bl_alloc (Below.refl _ _) _) _)).mono ?_; rintro e w1 ⟨rfl, hb1⟩; obtain ⟨hc1, hf1⟩ := bcell hb1; have z1 := hb1.size; simp at z1; have y1 : w.heap.size < w1.heap.size := (by omega); have x1 : w.heap.size + 1 < w1.heap.size := (by omega)) | (refine (E2.out _ (bl_trans hb1 (bl_alloc (bl_alloc (Below.refl _ _) _) _))).mono ?_; rintro e w2 ⟨rfl, hb2⟩; obtain ⟨hc2, hf2⟩ := bcell hb2; have z2 := hb2.size))
          | (go_at_call 48; refine (E3.out _ (bl_trans hb2 (bl_trans hb1 (bl_alloc (bl_alloc (Below.refl _ _) _) _)))).mono ?_; rintro e w3 ⟨rfl, hb3⟩))
        go_ret
        exact ⟨by simp, bl_trans hb3 (bl_trans hb2 (bl_trans hb1 (bl_alloc (bl_alloc (Below.refl _ _) _) _)))⟩
end Go.Proofs.T
namespace Go.Proofs.T
open Go.RowKit
theorem eg193 : ∀ args w, (callFunc 46 args).run Tryz.prog w = .ok (.enter 46 args) w := enters_of Tryz.func46 (by kernel_rfl) rfl
theorem Rd.nodeAt {w : World} {ok : Nat → Prop} {b o n : Nat} {xs : List Node} (h : Rd lNode w ok (some ⟨b, o, none⟩) n xs) (k : Nat) (hk : k < xs.length) :
    ∃ A1 c1 A2 c2 A3 c3, (w.cell? ⟨b, o + k * 4, none⟩ = some (.int .i64 xs[k].kind) ∧ w.cell? ⟨b, o + k * 4 + 1, none⟩ = some (.slice A1 xs[k].shape.length c1) ∧ w.cell? ⟨b, o + k * 4 + 2, none⟩ = some (.slice A2 xs[k].ints.length c2) ∧ w.cell? ⟨b, o + k * 4 + 3, none⟩ = some (.slice A3 xs[k].decs.length c3)) ∧ NodeAt w ok xs[k] A1 A2 A3 c1 c2 c3 := by
  obtain ⟨A1, c1, A2, c2, A3, c3, e0, e1, e2, e3, r1, r2, r3, l1, l2, l3⟩ := h.at4 k hk
  exact ⟨A1, c1, A2, c2, A3, c3, ⟨e0, e1, e2, e3⟩, l1, r1, l2, r2, l3, r3⟩
set_option maxHeartbeats 2000000 in
theorem eqF_lens (A B : Option Addr) (n m c d : Nat) (w : World) (h : n ≠ m) : Calls Tryz.prog 45 #[.slice A n c, .slice B m d, .func (.func 46) #[] #[]] w fun e w' => e = .returned (.bool false) ∧ w = w' := by
  have k1 : ((n : Int) != (m : Int)) = true := by simp; omega
  go_enter Tryz.func45, Tryz.ntmps45
  go_wp2
  go_ret
  exact ⟨rfl, rfl⟩
set_option maxHeartbeats 4000000 in
set_option maxRecDepth 100000 in
theorem eqF_same (A B : Option Addr) (c d : Nat) (xs ys : List Node) (ok ok2 : Nat → Prop) (w : World) (h1 : Rd lNode w ok A xs.length xs) (h2 : Rd lNode w ok2 B ys.length ys) (hl : ys.length = xs.length) :
    Calls Tryz.prog 45 #[.slice A xs.length c, .slice B xs.length d, .func (.func 46) #[] #[]] w fun e w' => e = .returned (.bool (xs == ys)) ∧ Below w.heap.size w w' := by
  have k1 : ((xs.length : Int) != (xs.length : Int)) = false := by simp
  have hm := h1.max
  have H1 := Lib.hid h1; have H2 := Lib.hid h2; have HL := Lib.hid hl
  clear h1 h2 hl
  go_enter Tryz.func45, Tryz.ntmps45
  go_wp2
  go_loopg [7, 8, 9, 17] xs.length (fun gg _ _ _ i wr => ∃ k : Nat, k ≤ xs.length ∧ gg = xs.length - k ∧ i = .int .i64 k ∧ Hid (xs.take k = ys.take k) ∧ Below w.heap.size w wr)
  case atStart => exact ⟨0, by omega, by omega, rfl, rfl, Below.refl _ _⟩
  case round =>
    obtain ⟨k, hk, rfl, rfl, heq, hb⟩ := hrel
    by_cases hlt : k < xs.length
    · have hlt2 : k < ys.length := by rw [HL.out]; exact hlt
      obtain ⟨b1, o1, hA, _⟩ := H1.out.row (by omega)
      subst hA
      obtain ⟨b2, o2, hB, _⟩ := H2.out.row (by omega)
      subst hB
      obtain ⟨A1, c1, A2, c2, A3, c3, ⟨e0, e1, e2, e3⟩, hn1⟩ := (H1.out.below (by decide) hb).nodeAt k hlt
      obtain ⟨B1, d1, B2, d2, B3, d3, ⟨e4, e5, e6, e7⟩, hn2⟩ := (H2.out.below (by decide) hb).nodeAt k hlt2
      have l1 := cell_lt e0; have l2 := cell_lt e4
      have hst : Hid (∀ h : xs[k] = ys[k], xs.take (k + 1) = ys.take (k + 1)) := fun h => take_eq_succ hlt hlt2 heq.out h
      have hno : Hid (xs[k] ≠ ys[k] → (xs == ys) = false) := fun h => beq_eq_false_iff_ne.2 fun h' => h (by subst h'; rfl)
      generalize xs[k] = x at e0 e1 e2 e3 hn1 hst hno
      generalize ys[k] = y at e4 e5 e6 e7 hn2 hst hno
      have hc := same1 x y A1 A2 A3 B1 B2 B3 c1 c2 c3 d1 d2 d3 ok ok2 _ ((hn1.move fun b _ h => (bl_alloc (Below.refl wr.heap.size wr) (Obj.cells #[.int .i64 x.kind, .slice A1 x.shape.length c1, .slice A2 x.ints.length c2, .slice A3 x.decs.length c3] 28)).block b h).move fun b _ h => (bl_alloc (Below.refl _ _) (Obj.cells #[.int .i64 y.kind, .slice B1 y.shape.length d1, .slice B2 y.ints.length d2, .slice B3 y.decs.length d3] 28)).block b h)
        ((hn2.move fun b _ h => (bl_alloc (Below.refl wr.heap.size wr) _).block b h).move fun b _ h => (bl_alloc (Below.refl _ _) _).block b h)
      have HC := Lib.hid hc
      clear hlt2 hn1 hn2 hc
      by_cases hxy : x = y
      · have hq : Hid (eqN x y = true) := (eqN_iff x y).2 hxy
        rw [hq.out] at HC
        have hst2 := Lib.hid (hst.out hxy)
        clear hst hno hxy
        go_wp2_with (go_at_call 46; refine HC.out.mono ?_; rintro e w1 ⟨rfl, hb1⟩)
        go_roundg (xs.length - (k + 1))
        case measure => omega
        case rel => exact ⟨k + 1, by omega, rfl, by go_num, hst2.out, bl_trans hb1 (bl_alloc (bl_alloc hb _) _)⟩
      · have hq : Hid (eqN x y = false) := by
          cases h : eqN x y
          · rfl
          · exact absurd ((eqN_iff x y).1 h) hxy
        rw [hq.out] at HC
        have hno2 := Lib.hid (hno.out hxy)
        clear hst hno hxy
        go_wp2_with (go_at_call 46; refine HC.out.mono ?_; rintro e w1 ⟨rfl, hb1⟩)
        go_ret
        exact ⟨by rw [hno2.out]; rfl, bl_trans hb1 (bl_alloc (bl_alloc hb _) _)⟩
    · have hkn : k = xs.length := by omega
      subst hkn
      have hfin : Hid ((xs == ys) = true) := by
        have := heq.out
        rw [List.take_length, ← HL.out, List.take_length] at this
        simpa [Hid] using this
      go_wp2
      go_ret
      exact ⟨by rw [hfin.out]; rfl, hb⟩
theorem eqF_any (A B : Option Addr) (c d : Nat) (xs ys : List Node) (ok ok2 : Nat → Prop) (w : World) (h1 : Rd lNode w ok A xs.length xs) (h2 : Rd lNode w ok2 B ys.length ys) :
    Calls Tryz.prog 45 #[.slice A xs.length c, .slice B ys.length d, .func (.func 46) #[] #[]] w fun e w' => e = .returned (.bool (xs == ys)) ∧ Below w.heap.size w w' := by
  by_cases hl : ys.length = xs.length
  · rw [hl]
    exact eqF_same A B c d xs ys ok ok2 w h1 h2 hl
  · refine (eqF_lens A B xs.length ys.length c d w (fun h => hl h.symm)).mono ?_
    rintro e w' ⟨rfl, rfl⟩
    exact ⟨by congr 2; exact (beq_eq_false_iff_ne.2 fun h => hl (by rw [h])).symm, Below.refl _ _⟩
set_option maxHeartbeats 400000 in
theorem same_any (A B : Option Addr) (c d : Nat) (xs ys : List Node) (ok ok2 : Nat → Prop) (w : World) (h1 : Rd lNode w ok A xs.length xs) (h2 : Rd lNode w ok2 B ys.length ys) :
    Calls Tryz.prog 21 #[.slice A xs.length c, .slice B ys.length d] w fun e w' => e = .returned (.bool (xs == ys)) ∧ Below w.heap.size w w' := by
  have HC := Lib.hid (eqF_any A B c d xs ys ok ok2 w h1 h2)
  clear h1 h2
  generalize (xs == ys) = q at HC ⊢
  go_enter Tryz.func21, Tryz.ntmps21
  go_wp2_with (go_at_call 45; refine HC.out.mono ?_; rintro e w1 ⟨rfl, hb⟩)
  go_ret
  exact ⟨rfl, hb⟩
/-- Whether nodes are a tight array. -/
def tightN (a : List Node) : Bool := rightA a && (a == formA a)
set_option maxHeartbeats 400000 in
theorem tightRight_any (A : Option Addr) (c : Nat) (a : List Node) (ok : Nat → Prop) (w : World) (h : Rd lNode w ok A a.length a) (hc : a.length ≤ c) (hx : NodesOk a) (hin : InOk a) (hlen : a.length ≤ 1000000000) :
    Calls Tryz.prog 8 #[.slice A a.length c] w fun e w' => e = .returned (.bool (tightN a)) ∧ Below w.heap.size w w' := by
  unfold tightN
  cases hr : rightA a with
  | false =>
    have HM := Lib.hid (make_wrong A c a ok w h hx hlen hr)
    clear h hc hx hin hr
    go_enter Tryz.func8, Tryz.ntmps8
    go_wp2_with (go_at_call 20; refine HM.out.mono ?_; rintro e w1 ⟨rfl, hb⟩)
    go_ret
    exact ⟨rfl, hb⟩
  | true =>
    have hf := (formN_fit a.length a (Nat.le_refl _) hlen hr hx hin).le
    have HM := Lib.hid (make_right A c a ok w h hc hx hin hlen hr)
    have HS := Lib.hid (fun (B : Option Addr) d W (hW : Below w.heap.size w W) ok2 (h2 : Rd lNode W ok2 B (formA a).length (formA a)) => same_any A B c d a (formA a) ok ok2 W (h.below (by decide) hW) h2)
    have hf2 : Hid ((formA a).length ≤ 1000000000) := Nat.le_trans hf hlen
    clear h hc hx hin hr hf
    generalize formA a = r at HM HS hf2 ⊢
    rw [Bool.true_and]
    generalize (a == r) = q at HS ⊢
    go_enter Tryz.func8, Tryz.ntmps8
    go_wp2_with (first
      | (go_at_call 20; refine HM.out.mono ?_; rintro e w1 ⟨v, cs, rfl, ho, hp, hb⟩; obtain ⟨A9, c9, rfl⟩ := own_form ho; have hr9 := (own_rd ho hp rfl hf2.out).2)
      | (go_at_call 21; refine (HS.out _ _ _ hb _ hr9).mono ?_; rintro e w2 ⟨rfl, hb2⟩))
    go_ret
    exact ⟨rfl, bl_trans hb2 hb⟩
end Go.Proofs.T
namespace Go.Proofs.T
open Go.RowKit
/-- The package-level variables that the code reads. -/
structure Glob (w : World) : Prop where
  tab : Lib.TabIs Tryz.prog w "internal/strconv.uint64pow10" .u64 Lib.pow10Tab
  mx : ∃ m, w.cell? ⟨0, 0, none⟩ = some (.int .i64 m)
  es : ∃ tp p, w.var? Tryz.prog "strconv.ErrSyntax" = some #[.iface tp p]
  er : ∃ tp p, w.var? Tryz.prog "strconv.ErrRange" = some #[.iface tp p]
  u8 : Lib.Utf8Tabs 1 2 w
theorem var_below {w w' : World} {name : String} {cs : Array Value} (h : w.var? Tryz.prog name = some cs) (hb : Below w.heap.size w w') : w'.var? Tryz.prog name = some cs := by
  unfold World.var? at *
  cases hg : Tryz.prog.globalNamed name with
  | none => rw [hg] at h; simp at h
  | some g =>
    rw [hg] at h
    simp only [Option.bind_some] at h ⊢
    by_cases hlt : g < w.heap.size
    · rw [hb.block g hlt]; exact h
    · rw [Array.getElem?_eq_none (by omega)] at h; simp at h
theorem Glob.below {w w' : World} (h : Glob w) (hb : Below w.heap.size w w') : Glob w' := by
  obtain ⟨m, hm⟩ := h.mx
  obtain ⟨t1, p1, h1⟩ := h.es
  obtain ⟨t2, p2, h2⟩ := h.er
  exact ⟨var_below h.tab hb, ⟨m, (hb.cell (cell_lt hm)).trans hm⟩, ⟨t1, p1, var_below h1 hb⟩, ⟨t2, p2, var_below h2 hb⟩, Utf8Tabs_below h.u8 hb⟩
/-- A number's text. -/
def numT (n : Int) : List UInt8 := if n < 0 then 194 :: 175 :: Lib.decDigits n.natAbs else Lib.decDigits n.natAbs
theorem dd_mem : ∀ (k u : Nat), u ≤ k → ∀ b ∈ Lib.decDigits u, 48 ≤ b.toNat ∧ b.toNat ≤ 57
  | k, u, hk, b, hb => by
    unfold Lib.decDigits at hb
    split at hb
    · next h =>
      rw [List.mem_singleton.1 hb]
      simp only [UInt8.toNat_ofNat']
      omega
    · next h =>
      rcases List.mem_append.1 hb with hb | hb
      · cases k with
        | zero => omega
        | succ k => exact dd_mem k (u / 10) (by omega) b hb
      · rw [List.mem_singleton.1 hb]
        simp only [UInt8.toNat_ofNat']
        omega
theorem dd_no (u : Nat) (c : UInt8) (h : c.toNat < 48 ∨ 57 < c.toNat) : (Lib.decDigits u).count c = 0 := by
  rw [List.count_eq_zero]
  intro hm
  have := dd_mem u u (Nat.le_refl _) c hm
  omega
theorem dd_ne (u : Nat) : Lib.decDigits u ≠ [] := by
  intro h
  have := Lib.decDigits_length u
  rw [h] at this
  have := Lib.nDigits_pos u
  simp at *
  omega
theorem numT_eq (n : Int) : Lib.replace (Lib.itoa n) [45] [194, 175] 1 = numT n := by
  unfold Lib.replace Lib.itoa numT
  rw [if_neg (by decide)]
  by_cases h : n < 0
  · rw [if_pos h, if_pos h]
    have hc : Lib.count (45 :: Lib.decDigits n.natAbs) [45] = 1 := by rw [Lib.count_cons_eq, Lib.count_one, dd_no _ _ (by decide)]
    have hi : Lib.index (45 :: Lib.decDigits n.natAbs) [45] = ((0 : Nat) : Int) := by simp [Lib.index, List.isPrefixOf]
    unfold Lib.replaceNum
    rw [hc, if_neg (by decide), show (1 : Int).toNat = 0 + 1 from rfl, Lib.replaceK_hit _ _ _ _ _ hi]
    rfl
  · rw [if_neg h, if_neg h, show n.natAbs = n.toNat by omega]
    have hc : Lib.count (Lib.decDigits n.toNat) [45] = 0 := by rw [Lib.count_one, dd_no _ _ (by decide)]
    unfold Lib.replaceNum
    rw [hc, if_pos (by decide)]
    rfl
theorem itoa_minus (n : Int) : Lib.count (Lib.itoa n) [45] ≤ 1 := by
  rw [Lib.count_one]
  unfold Lib.itoa
  split
  · rw [List.count_cons, dd_no _ _ (by decide)]; simp
  · rw [dd_no _ _ (by decide)]; omega
set_option maxHeartbeats 400000 in
theorem number_any (n : Int) (hn : I64 n) (w : World) (hG : Glob w) : Calls Tryz.prog 25 #[.int .i64 n] w fun e w' => e = .returned (.string ⟨(numT n).toArray⟩) ∧ Below w.heap.size w w' := by
  have hI := Tryz.strconv_Itoa n hn.1 hn.2 w hG.tab
  have hR : ∀ W, Below w.heap.size w W → Calls Tryz.prog 51 #[.string ⟨(Lib.itoa n).toArray⟩, .string ⟨#[45]⟩, .string ⟨#[194, 175]⟩, .int .i64 1] W fun e w' => e = .returned (.string ⟨(numT n).toArray⟩) ∧ Below W.heap.size W w' := fun W hW => by
    obtain ⟨m, hm⟩ := (hG.below hW).mx
    have hl := Lib.itoa_length_le n hn.1 hn.2
    have hm1 := itoa_minus n
    have hs : (⟨(Lib.itoa n).toArray⟩ : ByteArray).size = (Lib.itoa n).length := by simp [ByteArray.size]
    refine (Tryz.strings_Replace ⟨(Lib.itoa n).toArray⟩ ⟨#[45]⟩ ⟨#[194, 175]⟩ 1 m W (by rw [hs]; omega) hm (by decide) (by rw [hs]; show _ + Lib.count (Lib.itoa n) [45] * 2 ≤ _; omega)).mono ?_
    rintro e w' ⟨rfl, hb⟩
    exact ⟨by rw [← numT_eq n], hb⟩
  have HI := Lib.hid hI; have HR := Lib.hid hR
  clear hI hR hn hG
  go_enter Tryz.func25, Tryz.ntmps25
  go_wp2_with (first
    | (go_at_call 52; refine HI.out.mono ?_; rintro e w1 ⟨rfl, k, os, rfl⟩; have hb1 := Lib.below_grow w.heap.size w (Nat.le_refl _) k os)
    | (go_at_call 51; refine (HR.out _ hb1).mono ?_; rintro e w2 ⟨rfl, hb2⟩))
  go_ret
  exact ⟨rfl, bl_trans hb2 hb1⟩
end Go.Proofs.T
namespace Go.Proofs.T
open Go.RowKit
theorem info9 : (Tryz.prog.info? 9).map (fun i => (i.zero, i.size, i.bytes)) = some (some (.string ⟨#[]⟩), 1, 16) := by kernel_rfl
def strV (l : List UInt8) : Value := .string ⟨l.toArray⟩
/-- Whole numbers' text. -/
def joinT (ls : List (List UInt8)) : List UInt8 := Lib.join ls [32]
def intsT (l : List Int) : List UInt8 := joinT (l.map numT)
theorem numT_len (n : Int) (h : I64 n) : (numT n).length ≤ 23 := by
  have := Lib.itoa_length_le n h.1 h.2
  unfold Lib.itoa at this
  unfold numT
  split
  · next hn => rw [if_pos hn, List.length_cons] at this; rw [List.length_cons, List.length_cons]; omega
  · next hn => rw [if_neg hn] at this; rw [show n.natAbs = n.toNat by omega]; omega
theorem join_le (b : Nat) : ∀ (ls : List (List UInt8)), (∀ l ∈ ls, l.length ≤ b) → (joinT ls).length ≤ (b + 1) * ls.length
  | [], _ => by simp [joinT, Lib.join_nil]
  | x :: r, h => by
    unfold joinT
    have hl : ∀ (ys : List (List UInt8)), (∀ l ∈ ys, l.length ≤ b) → Lib.lens ys ≤ b * ys.length := by
      intro ys
      induction ys with
      | nil => intro _; simp [Lib.lens]
      | cons y ys ih =>
        intro h
        have h1 := h y (by simp)
        have h2 := ih fun l hl => h l (List.mem_cons_of_mem _ hl)
        simp only [Lib.lens, List.length_cons] at h2 ⊢
        rw [Nat.mul_succ]
        simp only [List.map_cons, List.sum_cons] at *
        omega
    have h1 := hl (x :: r) h
    rw [Lib.join_length]
    simp only [List.length_cons, List.length_nil] at h1 ⊢
    have e : (b + 1) * (r.length + 1) = b * (r.length + 1) + (r.length + 1) := by rw [Nat.add_mul, Nat.one_mul]
    rw [e]
    generalize b * (r.length + 1) = q at h1 ⊢
    omega
theorem strings_cells {w : World} {base : Nat} {v : Value} {n : Nat} {ss : List (List UInt8)} (ho : w.ownsRow base 9 1 v n (ss.map strV)) (hn : ss.length = n) (hb : (joinT ss).length ≤ 140737488355328) (hl : n ≤ 1000000000) :
    Calls Tryz.prog 26 #[v, .string ⟨#[32]⟩] w fun e w' => e = .returned (strV (joinT ss)) ∧ Below w.heap.size w w' := by
  subst hn
  rcases ho.2 with ⟨rfl, h0⟩ | ⟨g, cap, cur, rfl, _, hg, hnc, hcm, _⟩
  · obtain rfl : ss = [] := List.eq_nil_of_length_eq_zero h0
    refine (Tryz.strings_Join_none none 0 ⟨#[32]⟩ w).mono ?_
    rintro e w' ⟨rfl, rfl⟩
    exact ⟨rfl, Below.refl _ _⟩
  · have hc := ho.cells (g := g) (by simp [Value.ownBlock])
    have hlen : (ss.map fun l => (⟨l.toArray⟩ : ByteArray)).length = ss.length := by simp
    have hmm : (ss.map fun l => (⟨l.toArray⟩ : ByteArray)).map (·.data.toList) = ss := by simp [List.map_map, Function.comp_def]
    have := Tryz.strings_Join g 0 cap (ss.map fun l => (⟨l.toArray⟩ : ByteArray)) ⟨#[32]⟩ w (fun j x hx => by
      rw [List.getElem?_map] at hx
      obtain ⟨l, hl, rfl⟩ := Option.map_eq_some_iff.1 hx
      have := hc j (strV l) (by rw [List.getElem?_map, hl]; rfl)
      rwa [addr_add] at this) (Array.getElem?_eq_some_iff.1 hg).1 (by rw [hlen]; omega) (by rw [hlen]; exact hnc) (by rw [hmm]; exact hb)
    rw [hlen, hmm] at this
    exact this
set_option maxHeartbeats 4000000 in
theorem ints_any (A : Option Addr) (c : Nat) (xs : List Int) (ok : Nat → Prop) (w : World) (h : Rd Ly.i64 w ok A xs.length xs) (hx : I64s xs) (hG : Glob w) (hlen : xs.length ≤ 1000000000) :
    Calls Tryz.prog 10 #[.slice A xs.length c] w fun e w' => e = .returned (strV (intsT xs)) ∧ Below w.heap.size w w' := by
  have HR := Lib.hid h; have HX := Lib.hid hx; have HG := Lib.hid hG
  clear h hx hG
  go_enter Tryz.func10, Tryz.ntmps10
  go_wp2
  go_loopg [3, 5, 8] xs.length (fun gg s3 _ i wr => ∃ (k : Nat) (v : Value) (ss : List (List UInt8)), v = s3 ∧ k ≤ xs.length ∧ gg = xs.length - k ∧ i = .int .i64 k ∧ wr.ownsRow w.heap.size 9 1 v k (ss.map strV) ∧ Hid (ss = (xs.take k).map numT) ∧ Below w.heap.size w wr)
  case atStart => exact ⟨0, _, [], rfl, by omega, by omega, rfl, World.ownsRow_nil _ _ _ _, rfl, Below.refl _ _⟩
  case round =>
    obtain ⟨k, v, ss, rfl, hk, rfl, rfl, hown, HS, hb⟩ := hrel
    obtain ⟨A0, c0, rfl⟩ := own_form hown
    by_cases hlt : k < xs.length
    · obtain ⟨b, o, hA, _⟩ := HR.out.row (by omega)
      subst hA
      have e0 := (HR.out.below (by decide) hb).at1 k hlt
      have hxk := HX.out xs[k] (List.getElem_mem hlt)
      have hst : Hid (ss ++ [numT xs[k]] = (xs.take (k + 1)).map numT) := by
        show _ = _
        rw [HS.out, List.take_succ_eq_append_getElem hlt, List.map_append]; rfl
      generalize xs[k] = x at e0 hxk hst
      have hnum := number_any x hxk wr (HG.out.below hb)
      change Calls Tryz.prog 25 _ _ (fun e w' => e = .returned (strV (numT x)) ∧ _) at hnum
      generalize numT x = t at hnum hst
      have HN := Lib.hid hnum; clear hnum hxk
      unfold strV at HN
      go_wp2_with (first
        | (go_at_call 25; refine HN.out.mono ?_; rintro e w1 ⟨rfl, hb1⟩)
        | (at_builtin; refine app_one (w0 := w) w.heap.size rfl (.tmp 12) (.tmp 15) 52 9 (.string ⟨#[]⟩) 1 16 rfl Tryz.underlying52 info9 rfl (by decide) _ k (ss.map strV) [strV t] rfl rfl rfl (fun u hu => by rw [List.mem_singleton.1 hu]; rfl) (own_below hown hb1) (bl_trans hb1 hb) (bl_trans hb1 hb).size (by simp only [maxLen]; omega) (by omega) ?_; intro v1 w2 hown2 hb2 hg2 _))
      go_roundg (xs.length - (k + 1))
      case measure => omega
      case rel => exact ⟨k + 1, v1, ss ++ [t], rfl, by omega, rfl, by go_num, by rw [List.map_append]; exact hown2, hst, hb2⟩
    · have hkn : k = xs.length := by omega
      subst hkn
      have hss : Hid (ss = xs.map numT) := by rw [HS.out, List.take_length]; rfl
      have hl : ss.length = xs.length := by rw [hss.out, List.length_map]
      have hj := strings_cells hown hl (Nat.le_trans (join_le 23 ss fun l hl => by
        rw [hss.out] at hl
        obtain ⟨n, hn, rfl⟩ := List.mem_map.1 hl
        exact numT_len n (HX.out n hn)) (by omega)) hlen
      have HJ := Lib.hid hj
      clear hj hl
      have hfin : Hid (intsT xs = joinT ss) := by unfold intsT; rw [hss.out]; rfl
      generalize joinT ss = r at HJ hfin
      unfold strV at HJ
      go_wp2_with (go_at_call 26; refine HJ.out.mono ?_; rintro e w1 ⟨rfl, hb1⟩)
      go_ret
      exact ⟨by rw [hfin.out]; rfl, bl_trans hb1 hb⟩
end Go.Proofs.T
namespace Go.Proofs.T
open Go.RowKit
theorem bcat (a b : List UInt8) : (⟨a.toArray⟩ : ByteArray) ++ ⟨b.toArray⟩ = ⟨(a ++ b).toArray⟩ := by
  apply ByteArray.ext
  simp
theorem trim_itoa (n : Int) : Lib.trimPrefix (Lib.itoa n) [45] = Lib.decDigits n.natAbs := by
  unfold Lib.trimPrefix Lib.hasPrefix Lib.itoa
  by_cases h : n < 0
  · rw [if_pos h]; simp [List.isPrefixOf]
  · rw [if_neg h, show n.toNat = n.natAbs by omega, if_neg]
    intro hp
    cases hd : Lib.decDigits n.natAbs with
    | nil => exact dd_ne _ hd
    | cons c r =>
      have := dd_mem _ _ (Nat.le_refl _) c (by rw [hd]; simp)
      rw [hd] at hp
      have : (45 : UInt8) = c := by simpa [List.isPrefixOf] using hp
      subst this
      simp at *
set_option maxHeartbeats 400000 in
theorem digits_any (n : Int) (hn : I64 n) (w : World) (hG : Glob w) : Calls Tryz.prog 83 #[.int .i64 n] w fun e w' => e = .returned (strV (Lib.decDigits n.natAbs)) ∧ Below w.heap.size w w' := by
  have hI := Tryz.strconv_Itoa n hn.1 hn.2 w hG.tab
  have hR : ∀ W, Calls Tryz.prog 102 #[.string ⟨(Lib.itoa n).toArray⟩, .string ⟨#[45]⟩] W fun e w' => e = .returned (.string ⟨(Lib.decDigits n.natAbs).toArray⟩) ∧ w' = W := fun W => by
    refine (Tryz.strings_TrimPrefix ⟨(Lib.itoa n).toArray⟩ ⟨#[45]⟩ W).mono ?_
    rintro e w' ⟨rfl, rfl⟩
    exact ⟨by rw [← trim_itoa n], rfl⟩
  have HI := Lib.hid hI; have HR := Lib.hid hR
  clear hI hR hn hG
  unfold strV
  go_enter Tryz.func83, Tryz.ntmps83
  go_wp2_with (first
    | (go_at_call 52; refine HI.out.mono ?_; rintro e w1 ⟨rfl, k, os, rfl⟩; have hb1 := Lib.below_grow w.heap.size w (Nat.le_refl _) k os)
    | (go_at_call 102; refine (HR.out _).mono ?_; rintro e w2 ⟨rfl, rfl⟩))
  go_ret
  exact ⟨rfl, hb1⟩
theorem dd_len (n : Int) (hn : I64 n) : (Lib.decDigits n.natAbs).length ≤ 21 := by
  have := Lib.itoa_length_le n hn.1 hn.2
  unfold Lib.itoa at this
  split at this
  · rw [List.length_cons] at this; omega
  · rw [show n.natAbs = n.toNat by omega]; omega
set_option maxHeartbeats 400000 in
theorem dnumber_any (n : Int) (hn : I64 n) (w : World) (hG : Glob w) : Calls Tryz.prog 66 #[.int .i64 n] w fun e w' => e = .returned (strV (numT n)) ∧ Below w.heap.size w w' := by
  have HD := Lib.hid (digits_any n hn w hG)
  have hdl := dd_len n hn
  clear hn hG
  by_cases h : n < 0
  · have k1 : decide (n < 0) = true := by simpa using h
    have hnum : Hid (numT n = [194, 175] ++ Lib.decDigits n.natAbs) := by unfold numT; rw [if_pos h]; rfl
    clear h
    generalize Lib.decDigits n.natAbs = t at HD hnum hdl
    unfold strV at *
    go_enter Tryz.func66, Tryz.ntmps66
    go_wp2_with (go_at_call 83; refine HD.out.mono ?_; rintro e w1 ⟨rfl, hb1⟩)
    go_ret
    refine ⟨?_, hb1⟩
    rw [hnum.out, ← bcat]; rfl
  · have k1 : decide (n < 0) = false := by simpa using h
    have hnum : Hid (numT n = Lib.decDigits n.natAbs) := by unfold numT; rw [if_neg h]; rfl
    clear h
    generalize Lib.decDigits n.natAbs = t at HD hnum hdl
    unfold strV at *
    go_enter Tryz.func66, Tryz.ntmps66
    go_wp2_with (go_at_call 83; refine HD.out.mono ?_; rintro e w1 ⟨rfl, hb1⟩)
    go_ret
    exact ⟨by rw [hnum.out]; rfl, hb1⟩
end Go.Proofs.T
namespace Go.Proofs.T
open Go.RowKit
structure Keep2 (w : World) (v0 v1 : Value) (W : World) : Prop where
  hb : Below w.heap.size w W
  lt : w.heap.size < W.heap.size
  c0 : W.cell? ⟨w.heap.size, 0, none⟩ = some v0
  c1 : W.cell? ⟨w.heap.size, 1, none⟩ = some v1
theorem Keep2.below {w W X : World} {v0 v1 : Value} (h : Keep2 w v0 v1 W) (hb : Below W.heap.size W X) : Keep2 w v0 v1 X := by
  have hc := (bcell hb).1
  exact ⟨bl_trans hb h.hb, Nat.lt_of_lt_of_le h.lt hb.size, (hc _ _ h.lt).trans h.c0, (hc _ _ h.lt).trans h.c1⟩
theorem Keep2.all {w W : World} {v0 v1 : Value} (h : Keep2 w v0 v1 W) : Keep2 w v0 v1 W ∧ W.cell? ⟨w.heap.size, 0, none⟩ = some v0 ∧ W.cell? ⟨w.heap.size, 1, none⟩ = some v1 := ⟨h, h.c0, h.c1⟩
/-- A number's text. -/
def decT (d : Dec) : List UInt8 := if rightD d.man d.exp = true then (if d.exp = 0 then numT d.man else numT d.man ++ [69] ++ numT d.exp) else []
theorem decT_len (d : Dec) (h : DecOk d) : (decT d).length ≤ 50 := by
  have h1 := numT_len d.man h.1
  have h2 := numT_len d.exp h.2
  unfold decT
  split
  · split
    · omega
    · simp only [List.length_append, List.length_cons, List.length_nil]; omega
  · simp
set_option maxHeartbeats 2000000 in
theorem dtext_any (d : Dec) (hd : DecOk d) (w : World) (hG : Glob w) : Calls Tryz.prog 43 #[decW d] w fun e w' => e = .returned (strV (decT d)) ∧ Below w.heap.size w w' := by
  have hr := right_any d.man d.exp hd.1 hd.2
  have HN := Lib.hid (fun q (hq : I64 q) W (hW : Below w.heap.size w W) => dnumber_any q hq W (hG.below hW))
  have hm := hd.1; have hx0 := hd.2
  have l1 := numT_len d.man hd.1
  have l2 := numT_len d.exp hd.2
  unfold decT
  obtain ⟨m, x⟩ := d
  simp only at hr l1 l2 hm hx0 ⊢
  clear hd hG
  cases hR : rightD m x with
  | false =>
    rw [hR] at hr
    have HR := Lib.hid hr; clear hr hR
    unfold decW strV at *
    go_enter Tryz.func43, Tryz.ntmps43
    go_wp2_with (go_at_call 17; refine (HR.out _).mono ?_; rintro e w1 ⟨rfl, hb1⟩)
    go_ret
    exact ⟨rfl, bl_trans hb1 (bl_alloc (Below.refl _ _) _)⟩
  | true =>
    rw [hR] at hr
    have HR := Lib.hid hr; clear hr hR
    by_cases hx : x = 0
    · subst hx
      simp only [if_true]
      unfold decW strV at *
      go_enter Tryz.func43, Tryz.ntmps43
      go_wp2_with (first
        | (go_at_call 17; refine (HR.out _).mono ?_; rintro e w1 ⟨rfl, hb1⟩; obtain ⟨hc1, hf1⟩ := bcell hb1; have z1 := hb1.size; simp at z1; have hb1' := bl_trans hb1 (bl_alloc (Below.refl w.heap.size w) _))
        | (go_at_call 66; refine (HN.out m hm _ hb1').mono ?_; rintro e w2 ⟨rfl, hb2⟩))
      go_ret
      exact ⟨rfl, bl_trans hb2 hb1'⟩
    · simp only [if_true, if_neg hx]
      have k1 : (x == 0) = false := by simpa using hx
      have k2 : ¬ 9223372036854775807 < (numT m).length + 1 := by omega
      have k3 : ¬ 9223372036854775807 < (numT m).length + 1 + (numT x).length := by omega
      clear hx
      unfold decW strV at *
      go_enter Tryz.func43, Tryz.ntmps43
      go_wp2_with (go_at_call 17; refine (HR.out _).mono ?_; rintro e w1 ⟨rfl, hb1⟩; obtain ⟨hc1, hf1⟩ := bcell hb1; have z1 := hb1.size; simp at z1; have K1 : Keep2 w (.int .i64 m) (.int .i64 x) w1 := Keep2.below ⟨bl_alloc (Below.refl _ _) _, by simp, by simp, by simp⟩ hb1)
      have K2 : Keep2 w (.int .i64 m) (.int .i64 x) w1.drew := K1.below (bl_drew (Below.refl _ _))
      obtain ⟨y0, y1⟩ : _ ∧ _ := ⟨K2.c0, K2.c1⟩
      go_region_held3 (fun w' => Keep2 w (.int .i64 m) (.int .i64 x) w' ∧ w'.cell? ⟨w.heap.size, 0, none⟩ = some (.int .i64 m) ∧ w'.cell? ⟨w.heap.size, 1, none⟩ = some (.int .i64 x))
        (exact Keep2.all (by with_reducible assumption))
        (first
          | (go_at_call 66; refine (HN.out _ (by with_reducible assumption) _ (by with_reducible assumption : Keep2 w (.int .i64 m) (.int .i64 x) _).hb).mono ?_; rintro e wA ⟨rfl, hbA⟩; have KA : Keep2 w (.int .i64 m) (.int .i64 x) wA := Keep2.below (by with_reducible assumption) hbA))
      all_goals
        go_wp2
        go_ret
        exact ⟨by rw [← bcat, ← bcat]; rfl, KA.hb⟩
end Go.Proofs.T
