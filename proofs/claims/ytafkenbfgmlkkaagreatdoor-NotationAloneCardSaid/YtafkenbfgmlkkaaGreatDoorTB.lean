/- NotationNests holds for every input: the notation of a tight nest is made of its kids'; under the row's own conditions (the listed package variables as the program lays them). Part 2 of 6: the contracts of the functions that it reaches, and plain lemmas. -/
import Derived.Test.YtafkenbfgmlkkaaGreatDoorTA
import Derived.WalkSpells
import Derived.Deep.RegionHeld3
import Derived.Laws.Rows
set_option linter.unusedVariables false
set_option linter.unusedSimpArgs false
namespace Go.Proofs.T
open Go.RowKit


theorem info28 : (Tryz.prog.info? 28).map (fun i => (i.zero, i.size, i.bytes)) = some (some (.agg #[.int .i64 0, .slice none 0 0, .slice none 0 0, .slice none 0 0]), 4, 80) := by kernel_rfl
set_option maxHeartbeats 400000 in
theorem cloneN_nil (c : Nat) (w : World) : Calls Tryz.prog 50 #[.slice none 0 c] w fun e w' => e = .returned (.slice none 0 0) ∧ w = w' := by
  have hq := fun w => Lib.run_eql_slice_nil (P := Tryz.prog) w 22 28 none 0 c 0 0 Tryz.underlying22
  go_enter Tryz.func50, Tryz.ntmps50
  go_wp2
  go_ret
  exact ⟨rfl, rfl⟩
set_option maxHeartbeats 800000 in
theorem cloneN_some (ad : Addr) (n c : Nat) (cs : List Value) (w : World) (hl : cs.length = n * 4) (h1 : ∀ u ∈ cs, u.oneCell' = true) (hc : ∀ j u, cs[j]? = some u → w.cell? (ad.add j) = some u) (hn : n * 80 ≤ 140737488355328) :
    Calls Tryz.prog 50 #[.slice (some ad) n c] w fun e w' => ∃ v, e = .returned v ∧ w'.ownsRow w.heap.size 28 4 v n cs ∧ Below w.heap.size w w' := by
  have hq := fun w => Lib.run_eql_slice_nil (P := Tryz.prog) w 22 28 (some ad) n c 0 0 Tryz.underlying22
  obtain ⟨i0, hi, hzz⟩ := Option.map_eq_some_iff.1 info28
  simp only [Prod.mk.injEq] at hzz
  obtain ⟨hz0, hz1, hz2⟩ := hzz
  have hown : (w.alloc (.cells #[] 28)).ownsRow w.heap.size 28 4 (.slice (some ⟨w.heap.size, 0, none⟩) 0 0) 0 [] := by
    have := World.ownsRow_lit (base := w.heap.size) (e := 28) (size := 4) w #[] 0 (Nat.le_refl _) (by unfold maxLen; omega) rfl
    exact this
  have hcell : ∀ j u, cs[j]? = some u → (w.alloc (.cells #[] 28)).cell? (ad.add j) = some u := fun j u hu => by
    have h0 := hc j u hu
    rw [← h0]
    exact (bl_alloc (Below.refl w.heap.size w) _).cell (World.block_lt_of_cell? w _ h0)
  have HC := Lib.hid hcell; have HO := Lib.hid hown; have H1 := Lib.hid h1; have HL := Lib.hid hl; have HI := Lib.hid hi; have HZ := Lib.hid (And.intro hz0 (And.intro hz1 hz2))
  clear hcell hown hc h1 hl hi hz0 hz1 hz2
  go_enter Tryz.func50, Tryz.ntmps50
  go_wp2_with (at_builtin; refine wpList_append_own _ rfl (.tmp 5) (.tmp 6) 22 rfl w.heap.size 28 i0 (.agg #[.int .i64 0, .slice none 0 0, .slice none 0 0, .slice none 0 0]) 4 80 Tryz.underlying22 HI.out HZ.out.1 HZ.out.2.1 HZ.out.2.2 rfl (by decide) _ 0 [] rfl HO.out ad n c cs rfl HL.out HC.out H1.out (by simp only [maxLen]; omega) (by omega) (by simp) ?_; intro v1 w1 hown1 hg1 _)
  go_ret
  exact ⟨_, rfl, by simpa using hown1, bl_grown (bl_alloc (Below.refl _ _) _) hg1 (fun k hk => own_base HO.out k hk)⟩
theorem cloneN_any (A : Option Addr) (c : Nat) (xs : List Node) (ok : Nat → Prop) (w : World) (h : Rd lNode w ok A xs.length xs) (hn : xs.length ≤ 1000000000) :
    Calls Tryz.prog 50 #[.slice A xs.length c] w fun e w' => ∃ v cs, e = .returned v ∧ w'.ownsRow w.heap.size 28 4 v xs.length cs ∧ Parts lNode w' ok xs cs ∧ Below w.heap.size w w' := by
  cases A with
  | none =>
    obtain rfl : xs = [] := by
      rcases h.ways with ⟨_, h0⟩ | ⟨_, b, o, e⟩
      · exact h0
      · cases e
    exact (cloneN_nil c w).mono fun e w' ⟨h1, h2⟩ => ⟨_, [], h1, World.ownsRow_nil _ _ _ _, rfl, h2 ▸ Below.refl _ _⟩
  | some ad =>
    obtain ⟨cs, hp, hc⟩ : ∃ cs, Parts lNode w ok xs cs ∧ ∀ j u, cs[j]? = some u → w.cell? (ad.add j) = some u := by
      rcases h.ways with ⟨_, rfl⟩ | ⟨_, b, o, e⟩
      · exact ⟨[], rfl, fun j u h => by simp at h⟩
      · injection e with e; subst e
        obtain ⟨cs, h1, h2⟩ := h.flat
        exact ⟨cs, h1, fun j u hu => by rw [addr_add]; exact h2 j u hu⟩
    refine (cloneN_some ad xs.length c cs w hp.len hp.one hc (by omega)).mono ?_
    rintro e w' ⟨v, rfl, ho, hb⟩
    exact ⟨v, cs, rfl, ho, hp.move fun b _ hlt => hb.block b hlt, hb⟩


theorem info39 : (Tryz.prog.info? 39).map (fun i => (i.zero, i.size, i.bytes)) = some (some (.agg #[.int .i64 0, .int .i64 0]), 2, 16) := by kernel_rfl
set_option maxHeartbeats 400000 in
theorem cloneD_nil (c : Nat) (w : World) : Calls Tryz.prog 41 #[.slice none 0 c] w fun e w' => e = .returned (.slice none 0 0) ∧ w = w' := by
  have hq := fun w => Lib.run_eql_slice_nil (P := Tryz.prog) w 26 39 none 0 c 0 0 Tryz.underlying26
  go_enter Tryz.func41, Tryz.ntmps41
  go_wp2
  go_ret
  exact ⟨rfl, rfl⟩
set_option maxHeartbeats 800000 in
theorem cloneD_some (ad : Addr) (n c : Nat) (cs : List Value) (w : World) (hl : cs.length = n * 2) (h1 : ∀ u ∈ cs, u.oneCell' = true) (hc : ∀ j u, cs[j]? = some u → w.cell? (ad.add j) = some u) (hn : n * 16 ≤ 140737488355328) :
    Calls Tryz.prog 41 #[.slice (some ad) n c] w fun e w' => ∃ v, e = .returned v ∧ w'.ownsRow w.heap.size 39 2 v n cs ∧ Below w.heap.size w w' := by
  have hq := fun w => Lib.run_eql_slice_nil (P := Tryz.prog) w 26 39 (some ad) n c 0 0 Tryz.underlying26
  obtain ⟨i0, hi, hzz⟩ := Option.map_eq_some_iff.1 info39
  simp only [Prod.mk.injEq] at hzz
  obtain ⟨hz0, hz1, hz2⟩ := hzz
  have hown : (w.alloc (.cells #[] 39)).ownsRow w.heap.size 39 2 (.slice (some ⟨w.heap.size, 0, none⟩) 0 0) 0 [] := by
    have := World.ownsRow_lit (base := w.heap.size) (e := 39) (size := 2) w #[] 0 (Nat.le_refl _) (by unfold maxLen; omega) rfl
    exact this
  have hcell : ∀ j u, cs[j]? = some u → (w.alloc (.cells #[] 39)).cell? (ad.add j) = some u := fun j u hu => by
    have h0 := hc j u hu
    rw [← h0]
    exact (bl_alloc (Below.refl w.heap.size w) _).cell (World.block_lt_of_cell? w _ h0)
  have HC := Lib.hid hcell; have HO := Lib.hid hown; have H1 := Lib.hid h1; have HL := Lib.hid hl; have HI := Lib.hid hi; have HZ := Lib.hid (And.intro hz0 (And.intro hz1 hz2))
  clear hcell hown hc h1 hl hi hz0 hz1 hz2
  go_enter Tryz.func41, Tryz.ntmps41
  go_wp2_with (at_builtin; refine wpList_append_own _ rfl (.tmp 5) (.tmp 6) 26 rfl w.heap.size 39 i0 (.agg #[.int .i64 0, .int .i64 0]) 2 16 Tryz.underlying26 HI.out HZ.out.1 HZ.out.2.1 HZ.out.2.2 rfl (by decide) _ 0 [] rfl HO.out ad n c cs rfl HL.out HC.out H1.out (by simp only [maxLen]; omega) (by omega) (by simp) ?_; intro v1 w1 hown1 hg1 _)
  go_ret
  exact ⟨_, rfl, by simpa using hown1, bl_grown (bl_alloc (Below.refl _ _) _) hg1 (fun k hk => own_base HO.out k hk)⟩
theorem cloneD_any (A : Option Addr) (c : Nat) (xs : List Dec) (ok : Nat → Prop) (w : World) (h : Rd lDec w ok A xs.length xs) (hn : xs.length ≤ 1000000000) :
    Calls Tryz.prog 41 #[.slice A xs.length c] w fun e w' => ∃ v cs, e = .returned v ∧ w'.ownsRow w.heap.size 39 2 v xs.length cs ∧ Parts lDec w' ok xs cs ∧ Below w.heap.size w w' := by
  cases A with
  | none =>
    obtain rfl : xs = [] := by
      rcases h.ways with ⟨_, h0⟩ | ⟨_, b, o, e⟩
      · exact h0
      · cases e
    exact (cloneD_nil c w).mono fun e w' ⟨h1, h2⟩ => ⟨_, [], h1, World.ownsRow_nil _ _ _ _, rfl, h2 ▸ Below.refl _ _⟩
  | some ad =>
    obtain ⟨cs, hp, hc⟩ : ∃ cs, Parts lDec w ok xs cs ∧ ∀ j u, cs[j]? = some u → w.cell? (ad.add j) = some u := by
      rcases h.ways with ⟨_, rfl⟩ | ⟨_, b, o, e⟩
      · exact ⟨[], rfl, fun j u h => by simp at h⟩
      · injection e with e; subst e
        obtain ⟨cs, h1, h2⟩ := h.flat
        exact ⟨cs, h1, fun j u hu => by rw [addr_add]; exact h2 j u hu⟩
    refine (cloneD_some ad xs.length c cs w hp.len hp.one hc (by omega)).mono ?_
    rintro e w' ⟨v, rfl, ho, hb⟩
    exact ⟨v, cs, rfl, ho, hp.move fun b _ hlt => hb.block b hlt, hb⟩


set_option maxHeartbeats 400000 in
theorem cloneI_nil (c : Nat) (w : World) : Calls Tryz.prog 38 #[.slice none 0 c] w fun e w' => e = .returned (.slice none 0 0) ∧ w = w' := by
  have hq := fun w => Lib.run_eql_slice_nil (P := Tryz.prog) w 25 3 none 0 c 0 0 Tryz.underlying25
  go_enter Tryz.func38, Tryz.ntmps38
  go_wp2
  go_ret
  exact ⟨rfl, rfl⟩
set_option maxHeartbeats 800000 in
theorem cloneI_some (ad : Addr) (n c : Nat) (cs : List Value) (w : World) (hl : cs.length = n * 1) (h1 : ∀ u ∈ cs, u.oneCell' = true) (hc : ∀ j u, cs[j]? = some u → w.cell? (ad.add j) = some u) (hn : n * 8 ≤ 140737488355328) :
    Calls Tryz.prog 38 #[.slice (some ad) n c] w fun e w' => ∃ v, e = .returned v ∧ w'.ownsRow w.heap.size 3 1 v n cs ∧ Below w.heap.size w w' := by
  have hq := fun w => Lib.run_eql_slice_nil (P := Tryz.prog) w 25 3 (some ad) n c 0 0 Tryz.underlying25
  obtain ⟨i0, hi, hzz⟩ := Option.map_eq_some_iff.1 info3
  simp only [Prod.mk.injEq] at hzz
  obtain ⟨hz0, hz1, hz2⟩ := hzz
  have hown : (w.alloc (.cells #[] 3)).ownsRow w.heap.size 3 1 (.slice (some ⟨w.heap.size, 0, none⟩) 0 0) 0 [] := by
    have := World.ownsRow_lit (base := w.heap.size) (e := 3) (size := 1) w #[] 0 (Nat.le_refl _) (by unfold maxLen; omega) rfl
    exact this
  have hcell : ∀ j u, cs[j]? = some u → (w.alloc (.cells #[] 3)).cell? (ad.add j) = some u := fun j u hu => by
    have h0 := hc j u hu
    rw [← h0]
    exact (bl_alloc (Below.refl w.heap.size w) _).cell (World.block_lt_of_cell? w _ h0)
  have HC := Lib.hid hcell; have HO := Lib.hid hown; have H1 := Lib.hid h1; have HL := Lib.hid hl; have HI := Lib.hid hi; have HZ := Lib.hid (And.intro hz0 (And.intro hz1 hz2))
  clear hcell hown hc h1 hl hi hz0 hz1 hz2
  go_enter Tryz.func38, Tryz.ntmps38
  go_wp2_with (at_builtin; refine wpList_append_own _ rfl (.tmp 5) (.tmp 6) 25 rfl w.heap.size 3 i0 (.int .i64 0) 1 8 Tryz.underlying25 HI.out HZ.out.1 HZ.out.2.1 HZ.out.2.2 rfl (by decide) _ 0 [] rfl HO.out ad n c cs rfl HL.out HC.out H1.out (by simp only [maxLen]; omega) (by omega) (by simp) ?_; intro v1 w1 hown1 hg1 _)
  go_ret
  exact ⟨_, rfl, by simpa using hown1, bl_grown (bl_alloc (Below.refl _ _) _) hg1 (fun k hk => own_base HO.out k hk)⟩
theorem cloneI_any (A : Option Addr) (c : Nat) (xs : List Int) (ok : Nat → Prop) (w : World) (h : Rd Ly.i64 w ok A xs.length xs) (hn : xs.length ≤ 1000000000) :
    Calls Tryz.prog 38 #[.slice A xs.length c] w fun e w' => ∃ v cs, e = .returned v ∧ w'.ownsRow w.heap.size 3 1 v xs.length cs ∧ Parts Ly.i64 w' ok xs cs ∧ Below w.heap.size w w' := by
  cases A with
  | none =>
    obtain rfl : xs = [] := by
      rcases h.ways with ⟨_, h0⟩ | ⟨_, b, o, e⟩
      · exact h0
      · cases e
    exact (cloneI_nil c w).mono fun e w' ⟨h1, h2⟩ => ⟨_, [], h1, World.ownsRow_nil _ _ _ _, rfl, h2 ▸ Below.refl _ _⟩
  | some ad =>
    obtain ⟨cs, hp, hc⟩ : ∃ cs, Parts Ly.i64 w ok xs cs ∧ ∀ j u, cs[j]? = some u → w.cell? (ad.add j) = some u := by
      rcases h.ways with ⟨_, rfl⟩ | ⟨_, b, o, e⟩
      · exact ⟨[], rfl, fun j u h => by simp at h⟩
      · injection e with e; subst e
        obtain ⟨cs, h1, h2⟩ := h.flat
        exact ⟨cs, h1, fun j u hu => by rw [addr_add]; exact h2 j u hu⟩
    refine (cloneI_some ad xs.length c cs w hp.len hp.one hc (by omega)).mono ?_
    rintro e w' ⟨v, rfl, ho, hb⟩
    exact ⟨v, cs, rfl, ho, hp.move fun b _ hlt => hb.block b hlt, hb⟩

end Go.Proofs.T
namespace Go.Proofs.T
open Go.RowKit
/-- Nothing else is read. -/
def Flat {α : Type} (L : Ly α) : Prop := ∀ (w w' : World) (ok ok' : Nat → Prop) x c, L.K w ok x c → L.K w' ok' x c
theorem flat_i64 : Flat Ly.i64 := fun _ _ _ _ _ _ h => h
theorem flat_dec : Flat lDec := fun _ _ _ _ _ _ h => h
theorem Parts.any {α : Type} {L : Ly α} (hf : Flat L) {w w' : World} {ok ok' : Nat → Prop} : ∀ {xs : List α} {cs : List Value}, Parts L w ok xs cs → Parts L w' ok' xs cs
  | [], _, h => h
  | _ :: _, _, ⟨c, d, h, h1, h2⟩ => ⟨c, d, h, hf _ _ _ _ _ _ h1, Parts.any hf h2⟩
/-- Clone's answer, read. -/
theorem cloneI_rd (A : Option Addr) (c : Nat) (xs : List Int) (ok : Nat → Prop) (w : World) (h : Rd Ly.i64 w ok A xs.length xs) (hn : xs.length ≤ 1000000000) :
    Calls Tryz.prog 38 #[.slice A xs.length c] w fun e w' => ∃ A' c', e = .returned (.slice A' xs.length c') ∧ (xs.length ≤ c' ∧ Rd Ly.i64 w' (fun b => w.heap.size ≤ b) A' xs.length xs) ∧ Below w.heap.size w w' := by
  refine (cloneI_any A c xs ok w h hn).mono ?_
  rintro e w' ⟨v, cs, rfl, ho, hp, hb⟩
  obtain ⟨A', c', rfl, hc, hr⟩ := Rd.own (L := Ly.i64) ho (hp.any flat_i64 (ok' := fun b => w.heap.size ≤ b)) (fun b hb => own_base ho b hb) h.max
  exact ⟨A', c', rfl, ⟨hc, hr⟩, hb⟩
theorem cloneD_rd (A : Option Addr) (c : Nat) (xs : List Dec) (ok : Nat → Prop) (w : World) (h : Rd lDec w ok A xs.length xs) (hn : xs.length ≤ 1000000000) :
    Calls Tryz.prog 41 #[.slice A xs.length c] w fun e w' => ∃ A' c', e = .returned (.slice A' xs.length c') ∧ (xs.length ≤ c' ∧ Rd lDec w' (fun b => w.heap.size ≤ b) A' xs.length xs) ∧ Below w.heap.size w w' := by
  refine (cloneD_any A c xs ok w h hn).mono ?_
  rintro e w' ⟨v, cs, rfl, ho, hp, hb⟩
  obtain ⟨A', c', rfl, hc, hr⟩ := Rd.own (L := lDec) ho (hp.any flat_dec (ok' := fun b => w.heap.size ≤ b)) (fun b hb => own_base ho b hb) h.max
  exact ⟨A', c', rfl, ⟨hc, hr⟩, hb⟩
section
variable {α : Type} {L : Ly α} {w w' : World} {ok ok' : Nat → Prop}
/-- One element's cells are others that say the same. -/
theorem Parts.set : ∀ {xs : List α} {cs : List Value}, Parts L w ok xs cs → ∀ i x c, xs[i]? = some x → L.K w ok x c → Parts L w ok xs (cs.take (i * L.sz) ++ c ++ cs.drop (i * L.sz + L.sz))
  | [], _, _, i, x, _, hx, _ => by simp at hx
  | y :: ys, _, ⟨d, e, h, h1, h2⟩, 0, x, c, hx, hk => by
    obtain rfl : y = x := by simpa using hx
    refine ⟨c, e, ?_, hk, h2⟩
    rw [h, Nat.zero_mul, Nat.zero_add, List.take_zero, List.nil_append, List.drop_append_of_le_length (by rw [L.len h1]; exact Nat.le_refl _), List.drop_of_length_le (by rw [L.len h1]; exact Nat.le_refl _), List.nil_append]
  | y :: ys, _, ⟨d, e, h, h1, h2⟩, i + 1, x, c, hx, hk => by
    have := Parts.set h2 i x c (by simpa using hx) hk
    refine ⟨d, _, ?_, h1, this⟩
    have hl := L.len h1
    rw [h, Nat.succ_mul, show i * L.sz + L.sz = d.length + i * L.sz by omega, List.take_length_add_append, show d.length + i * L.sz + L.sz = d.length + (i * L.sz + L.sz) by omega, List.drop_length_add_append]
    simp only [List.append_assoc]
    rw [show i * L.sz + L.sz = d.length + i * L.sz by omega]
end
theorem set4 (cs : List Value) (i : Nat) (a b c d : Value) (h : i + 4 ≤ cs.length) : (((cs.set i a).set (i + 1) b).set (i + 2) c).set (i + 3) d = cs.take i ++ [a, b, c, d] ++ cs.drop (i + 4) := by
  apply List.ext_getElem?
  intro j
  by_cases h1 : j < i
  · rw [List.append_assoc, List.getElem?_append_left (by simp; omega), List.getElem?_take_of_lt h1]
    rw [List.getElem?_set_ne (by omega), List.getElem?_set_ne (by omega), List.getElem?_set_ne (by omega), List.getElem?_set_ne (by omega)]
  · by_cases h2 : j < i + 4
    · rw [List.getElem?_append_left (by simp; omega), List.getElem?_append_right (by simp; omega)]
      simp only [List.length_take, Nat.min_eq_left (show i ≤ cs.length by omega)]
      obtain rfl | rfl | rfl | rfl : j = i ∨ j = i + 1 ∨ j = i + 2 ∨ j = i + 3 := by omega
      · rw [List.getElem?_set_ne (by omega), List.getElem?_set_ne (by omega), List.getElem?_set_ne (by omega), List.getElem?_set_self (by omega)]; simp
      · rw [List.getElem?_set_ne (by omega), List.getElem?_set_ne (by omega), List.getElem?_set_self (by simp; omega)]; simp
      · rw [List.getElem?_set_ne (by omega), List.getElem?_set_self (by simp; omega)]; simp
      · rw [List.getElem?_set_self (by simp; omega)]; simp
    · rw [List.getElem?_append_right (by simp; omega), List.getElem?_drop]
      rw [List.getElem?_set_ne (by omega), List.getElem?_set_ne (by omega), List.getElem?_set_ne (by omega), List.getElem?_set_ne (by omega)]
      congr 1
      simp only [List.length_append, List.length_take, List.length_cons, List.length_nil]
      omega
end Go.Proofs.T
namespace Go.Proofs.T
open Go.RowKit
theorem own_form {w : World} {base n size : Nat} {e : TypeId} {v : Value} {cs : List Value} (h : w.ownsRow base e size v n cs) : ∃ A c, v = .slice A n c := by
  rcases h.2 with ⟨rfl, h0⟩ | ⟨g, cap, cur, rfl, _⟩
  · exact ⟨none, 0, by rw [h0]⟩
  · exact ⟨_, _, rfl⟩
theorem set4_cell {W : World} {g B i1 i2 i3 i4 j : Nat} {u1 u2 u3 u4 : Value} (h : B ≠ g) : ((((W.setCell ⟨g, i1, none⟩ u1).setCell ⟨g, i2, none⟩ u2).setCell ⟨g, i3, none⟩ u3).setCell ⟨g, i4, none⟩ u4).cell? ⟨B, j, none⟩ = W.cell? ⟨B, j, none⟩ :=
  World.cell?_of_block (a := ⟨B, j, none⟩) (by rw [Below.heap_setCell _ _ _ _ h, Below.heap_setCell _ _ _ _ h, Below.heap_setCell _ _ _ _ h, Below.heap_setCell _ _ _ _ h])
theorem set4_size {W : World} {g B i1 i2 i3 i4 : Nat} {u1 u2 u3 u4 : Value} (h : B < W.heap.size) : B < ((((W.setCell ⟨g, i1, none⟩ u1).setCell ⟨g, i2, none⟩ u2).setCell ⟨g, i3, none⟩ u3).setCell ⟨g, i4, none⟩ u4).heap.size := by simpa [World.setCell] using h
theorem set4_below {w W : World} {g i1 i2 i3 i4 : Nat} {u1 u2 u3 u4 : Value} (h : Below w.heap.size w W) (hg : w.heap.size ≤ g) : Below w.heap.size w ((((W.setCell ⟨g, i1, none⟩ u1).setCell ⟨g, i2, none⟩ u2).setCell ⟨g, i3, none⟩ u3).setCell ⟨g, i4, none⟩ u4) :=
  bl_set (bl_set (bl_set (bl_set h hg _) hg _) hg _) hg _
theorem keep8 {w W : World} {g i : Nat} {v0 v1 v2 v3 : Value} (hb : Below w.heap.size w W) (hg : g < w.heap.size) (e0 : w.cell? ⟨g, i, none⟩ = some v0) (e1 : w.cell? ⟨g, i + 1, none⟩ = some v1) (e2 : w.cell? ⟨g, i + 2, none⟩ = some v2) (e3 : w.cell? ⟨g, i + 3, none⟩ = some v3)
    (f0 : w.frozen? ⟨g, i, none⟩ = false) (f1 : w.frozen? ⟨g, i + 1, none⟩ = false) (f2 : w.frozen? ⟨g, i + 2, none⟩ = false) (f3 : w.frozen? ⟨g, i + 3, none⟩ = false) :
    W.cell? ⟨g, i, none⟩ = some v0 ∧ W.cell? ⟨g, i + 1, none⟩ = some v1 ∧ W.cell? ⟨g, i + 2, none⟩ = some v2 ∧ W.cell? ⟨g, i + 3, none⟩ = some v3 ∧ W.frozen? ⟨g, i, none⟩ = false ∧ W.frozen? ⟨g, i + 1, none⟩ = false ∧ W.frozen? ⟨g, i + 2, none⟩ = false ∧ W.frozen? ⟨g, i + 3, none⟩ = false :=
  ⟨(hb.cell hg).trans e0, (hb.cell hg).trans e1, (hb.cell hg).trans e2, (hb.cell hg).trans e3, (hb.frozen hg).trans f0, (hb.frozen hg).trans f1, (hb.frozen hg).trans f2, (hb.frozen hg).trans f3⟩
def okF (ok : Nat → Prop) (B : Nat) (v : Value) : Nat → Prop := fun b => (ok b ∨ B ≤ b) ∧ v.ownBlock ≠ some b
theorem set4_heap {W : World} {g B i1 i2 i3 i4 : Nat} {u1 u2 u3 u4 : Value} (h : B ≠ g) : ((((W.setCell ⟨g, i1, none⟩ u1).setCell ⟨g, i2, none⟩ u2).setCell ⟨g, i3, none⟩ u3).setCell ⟨g, i4, none⟩ u4).heap[B]? = W.heap[B]? := by
  rw [Below.heap_setCell _ _ _ _ h, Below.heap_setCell _ _ _ _ h, Below.heap_setCell _ _ _ _ h, Below.heap_setCell _ _ _ _ h]
theorem copy_round {w wr W : World} {ok : Nat → Prop} {g k c1 : Nat} {xs : List Node} {ct : List Value} {x : Node} {S1 S2 S3 : Option Addr} {q1 q2 q3 : Nat}
    (hown : wr.ownsRow w.heap.size 28 4 (.slice (some ⟨g, 0, none⟩) xs.length c1) xs.length ct) (hparts : Parts lNode wr (okF ok w.heap.size (.slice (some ⟨g, 0, none⟩) xs.length c1)) xs ct) (hxk : xs[k]? = some x)
    (hB : Below wr.heap.size wr W) (hgb : w.heap.size ≤ g) (hgl : g < wr.heap.size)
    (r1 : x.shape.length ≤ q1 ∧ Rd Ly.i64 W (fun b => wr.heap.size ≤ b) S1 x.shape.length x.shape) (r2 : x.ints.length ≤ q2 ∧ Rd Ly.i64 W (fun b => wr.heap.size ≤ b) S2 x.ints.length x.ints) (r3 : x.decs.length ≤ q3 ∧ Rd lDec W (fun b => wr.heap.size ≤ b) S3 x.decs.length x.decs) :
    ∃ ct', ((((W.setCell ⟨g, k * 4, none⟩ (.int .i64 x.kind)).setCell ⟨g, k * 4 + 1, none⟩ (.slice S1 x.shape.length q1)).setCell ⟨g, k * 4 + 2, none⟩ (.slice S2 x.ints.length q2)).setCell ⟨g, k * 4 + 3, none⟩ (.slice S3 x.decs.length q3)).ownsRow w.heap.size 28 4 (.slice (some ⟨g, 0, none⟩) xs.length c1) xs.length ct' ∧
      Parts lNode ((((W.setCell ⟨g, k * 4, none⟩ (.int .i64 x.kind)).setCell ⟨g, k * 4 + 1, none⟩ (.slice S1 x.shape.length q1)).setCell ⟨g, k * 4 + 2, none⟩ (.slice S2 x.ints.length q2)).setCell ⟨g, k * 4 + 3, none⟩ (.slice S3 x.decs.length q3)) (okF ok w.heap.size (.slice (some ⟨g, 0, none⟩) xs.length c1)) xs ct' := by
  have hcl := hparts.len
  simp only [show lNode.sz = 4 from rfl] at hcl
  have hk : k < xs.length := (List.getElem?_eq_some_iff.1 hxk).1
  have o1 := (((((own_below hown hB).stored (k * 4) (.int .i64 x.kind)).1).stored (k * 4 + 1) (.slice S1 x.shape.length q1)).1.stored (k * 4 + 2) (.slice S2 x.ints.length q2)).1.stored (k * 4 + 3) (.slice S3 x.decs.length q3)
  rw [set4 ct (k * 4) _ _ _ _ (by omega)] at o1
  refine ⟨_, o1.1, ?_⟩
  have hmv : ∀ (L : Nat → Prop), (∀ b, L b → b ≠ g) → ∀ b, L b → b < W.heap.size → ((((W.setCell ⟨g, k * 4, none⟩ (.int .i64 x.kind)).setCell ⟨g, k * 4 + 1, none⟩ (.slice S1 x.shape.length q1)).setCell ⟨g, k * 4 + 2, none⟩ (.slice S2 x.ints.length q2)).setCell ⟨g, k * 4 + 3, none⟩ (.slice S3 x.decs.length q3)).heap[b]? = W.heap[b]? := fun L hL b hb _ => set4_heap (hL b hb)
  have hne : ∀ b, okF ok w.heap.size (.slice (some ⟨g, 0, none⟩) xs.length c1) b → b ≠ g := fun b hb e => hb.2 (by rw [e]; rfl)
  have hnw : ∀ b, wr.heap.size ≤ b → b ≠ g := fun b hb => by omega
  have hokw : ∀ b, wr.heap.size ≤ b → okF ok w.heap.size (.slice (some ⟨g, 0, none⟩) xs.length c1) b := fun b hb => ⟨.inr (by omega), fun e => by
    have : g = b := by simpa [Value.ownBlock] using e
    omega⟩
  have p1 := (hparts.move (w' := W) fun b _ hlt => hB.block b hlt).move fun b hb hlt => hmv _ hne b hb hlt
  have t1 := (r1.2.move (by decide) fun b hb hlt => hmv _ hnw b hb hlt).mono (by decide) fun b hb _ => hokw b hb
  have t2 := (r2.2.move (by decide) fun b hb hlt => hmv _ hnw b hb hlt).mono (by decide) fun b hb _ => hokw b hb
  have t3 := (r3.2.move (by decide) fun b hb hlt => hmv _ hnw b hb hlt).mono (by decide) fun b hb _ => hokw b hb
  exact p1.set k x [.int .i64 x.kind, .slice S1 x.shape.length q1, .slice S2 x.ints.length q2, .slice S3 x.decs.length q3] hxk
    ⟨[_], [_, _, _], rfl, rfl, [_], [_, _], rfl, ⟨S1, q1, rfl, r1.1, t1⟩, [_], [_], rfl, ⟨S2, q2, rfl, r2.1, t2⟩, S3, q3, rfl, r3.1, t3⟩
set_option maxHeartbeats 4000000 in
set_option maxRecDepth 100000 in
theorem copy_any (A : Option Addr) (c : Nat) (xs : List Node) (ok : Nat → Prop) (w : World) (h : Rd lNode w ok A xs.length xs) (hx : NodesOk xs) (hlen : xs.length ≤ 1000000000) (hin : ∀ x ∈ xs, x.shape.length ≤ 1000000000 ∧ x.ints.length ≤ 1000000000 ∧ x.decs.length ≤ 1000000000) :
    Calls Tryz.prog 24 #[.slice A xs.length c] w fun e w' => ∃ v cs, e = .returned v ∧ w'.ownsRow w.heap.size 28 4 v xs.length cs ∧ Parts lNode w' (okF ok w.heap.size v) xs cs ∧ Below w.heap.size w w' := by
  have hcl := cloneN_any A c xs (fun b => ok b ∧ b < w.heap.size) w (h.mono (by decide) fun b hb hlt => ⟨hb, hlt⟩) hlen
  have HC := Lib.hid hcl
  have HIN := Lib.hid hin
  clear hcl h hin
  go_enter Tryz.func24, Tryz.ntmps24
  go_wp2_with (go_at_call 50; refine HC.out.mono ?_; rintro e w1 ⟨v, cs, rfl, ho, hp, hb⟩; obtain ⟨A1, c1, rfl⟩ := own_form ho)
  go_loopg [4, 5, 10] xs.length (fun gg _ _ i wr => ∃ (k : Nat) (ct : List Value), k ≤ xs.length ∧ gg = xs.length - k ∧ i = .int .i64 k ∧ wr.ownsRow w.heap.size 28 4 (.slice A1 xs.length c1) xs.length ct ∧ Hid (Parts lNode wr (okF ok w.heap.size (.slice A1 xs.length c1)) xs ct) ∧ Below w.heap.size w wr)
  case atStart =>
    refine ⟨0, cs, by omega, by omega, rfl, ho, hp.mono fun b hb0 hlt => ⟨.inl hb0.1, fun e => ?_⟩, hb⟩
    have := own_base ho b e
    have := hb0.2
    omega
  case round =>
    obtain ⟨k, ct, hk, rfl, rfl, hown, hparts, hb2⟩ := hrel
    by_cases hlt : k < xs.length
    · obtain ⟨g, cap, he, hgb, hgl⟩ := hown.form (by omega)
      injection he with he1 he2 he3
      subst he1; subst he3
      obtain ⟨q, ⟨_, _, rfl, rfl, _, _, rfl, ⟨B1, d1, rfl, l1, r1⟩, _, _, rfl, ⟨B2, d2, rfl, l2, r2⟩, B3, d3, rfl, l3, r3⟩, hq⟩ := hparts.out.get k xs[k] (by simp)
      have hcl := hparts.out.len
      simp only [show lNode.sz = 4 from rfl] at hq hcl
      have e0 := (hown.cellAt (k * 4) (by omega)).trans (hq 0 _ rfl)
      have e1 := (hown.cellAt (k * 4 + 1) (by omega)).trans (hq 1 _ rfl)
      have e2 := (hown.cellAt (k * 4 + 2) (by omega)).trans (hq 2 _ rfl)
      have e3 := (hown.cellAt (k * 4 + 3) (by omega)).trans (hq 3 _ rfl)
      have f0 := hown.frozenAt (k * 4)
      have f1 := hown.frozenAt (k * 4 + 1)
      have f2 := hown.frozenAt (k * 4 + 2)
      have f3 := hown.frozenAt (k * 4 + 3)
      have hin := HIN.out xs[k] (List.getElem_mem hlt)
      have hxk : Hid (xs[k]? = some xs[k]) := by simp [Hid]
      generalize xs[k] = x at e0 e1 e2 e3 r1 r2 r3 l1 l2 l3 hin hxk
      have R := Lib.hid (And.intro r1 (And.intro r2 (And.intro r3 hin)))
      have HO := Lib.hid hown
      clear r1 r2 r3 hin hq hown
      go_wp2
      have hB0 : Below wr.heap.size wr (wr.alloc (.cells #[.int .i64 x.kind, .slice B1 x.shape.length d1, .slice B2 x.ints.length d2, .slice B3 x.decs.length d3] 28)).drew := bl_drew (bl_alloc (Below.refl _ _) _)
      obtain ⟨a0, a1, a2, a3, b0, b1, b2, b3⟩ := keep8 hB0 hgl e0 e1 e2 e3 f0 f1 f2 f3
      have hz0 : wr.heap.size < (wr.alloc (.cells #[.int .i64 x.kind, .slice B1 x.shape.length d1, .slice B2 x.ints.length d2, .slice B3 x.decs.length d3] 28)).drew.heap.size := by simp
      have y0 : World.cell? (wr.alloc (.cells #[.int .i64 x.kind, .slice B1 x.shape.length d1, .slice B2 x.ints.length d2, .slice B3 x.decs.length d3] 28)).drew ⟨wr.heap.size, 0, none⟩ = some (.int .i64 x.kind) := by simp
      have y1 : World.cell? (wr.alloc (.cells #[.int .i64 x.kind, .slice B1 x.shape.length d1, .slice B2 x.ints.length d2, .slice B3 x.decs.length d3] 28)).drew ⟨wr.heap.size, 1, none⟩ = some (.slice B1 x.shape.length d1) := by simp
      have y2 : World.cell? (wr.alloc (.cells #[.int .i64 x.kind, .slice B1 x.shape.length d1, .slice B2 x.ints.length d2, .slice B3 x.decs.length d3] 28)).drew ⟨wr.heap.size, 2, none⟩ = some (.slice B2 x.ints.length d2) := by simp
      have y3 : World.cell? (wr.alloc (.cells #[.int .i64 x.kind, .slice B1 x.shape.length d1, .slice B2 x.ints.length d2, .slice B3 x.decs.length d3] 28)).drew ⟨wr.heap.size, 3, none⟩ = some (.slice B3 x.decs.length d3) := by simp
      have tok1 : True := trivial
      have tok2 : True := trivial
      have hne : ¬ g = wr.heap.size := by omega
      have hne' : ¬ wr.heap.size = g := by omega
      have hW0 := bl_trans hB0 hb2
      go_region_held3 (fun w' => Below w.heap.size w w' ∧ wr.heap.size < w'.heap.size ∧ w'.cell? ⟨wr.heap.size, 0, none⟩ = some (.int .i64 x.kind) ∧ w'.cell? ⟨wr.heap.size, 1, none⟩ = some (.slice B1 x.shape.length d1) ∧ w'.cell? ⟨wr.heap.size, 2, none⟩ = some (.slice B2 x.ints.length d2) ∧ w'.cell? ⟨wr.heap.size, 3, none⟩ = some (.slice B3 x.decs.length d3))
        (first
          | (refine ⟨?_, ?_, ?_, ?_, ?_, ?_⟩ <;> with_reducible assumption)
          | exact ⟨set4_below (by with_reducible assumption) hgb, set4_size (by with_reducible assumption), (set4_cell hne').trans (by with_reducible assumption), (set4_cell hne').trans (by with_reducible assumption), (set4_cell hne').trans (by with_reducible assumption), (set4_cell hne').trans (by with_reducible assumption)⟩)
        (first
          | (go_at_call 38; refine (cloneI_rd _ _ _ (okF ok w.heap.size (.slice (some ⟨g, 0, none⟩) xs.length c1)) _ (by first | exact R.out.1.below (by decide) ‹Below wr.heap.size wr _› | exact R.out.2.1.below (by decide) ‹Below wr.heap.size wr _›) (by first | exact R.out.2.2.2.1 | exact R.out.2.2.2.2.1)).mono ?_; (first | (have tA := tok1; clear tA tok1; rintro e wA ⟨AA, cA, rfl, hA, hbA⟩; have hBA := bl_trans hbA ‹Below wr.heap.size wr _›; have hWA := bl_trans hbA ‹Below w.heap.size w _›; have hlA := ‹wr.heap.size < _›; replace hA := And.intro hA.1 (hA.2.mono (by decide) fun b hb _ => Nat.le_trans (Nat.le_of_lt hlA) hb); have hzA := Nat.lt_of_lt_of_le hlA hbA.size; obtain ⟨hcA, _⟩ := bcell hbA; have y0 := (hcA wr.heap.size 0 (by with_reducible assumption)).trans (by with_reducible assumption : _ = some (.int .i64 x.kind)); have y1 := (hcA wr.heap.size 1 (by with_reducible assumption)).trans (by with_reducible assumption : _ = some (.slice B1 x.shape.length d1)); have y2 := (hcA wr.heap.size 2 (by with_reducible assumption)).trans (by with_reducible assumption : _ = some (.slice B2 x.ints.length d2)); have y3 := (hcA wr.heap.size 3 (by with_reducible assumption)).trans (by with_reducible assumption : _ = some (.slice B3 x.decs.length d3)); clear hcA hlA; obtain ⟨a0, a1, a2, a3, b0, b1, b2, b3⟩ := keep8 hBA hgl e0 e1 e2 e3 f0 f1 f2 f3) | (have tB := tok2; clear tB tok2; rintro e wB ⟨AB, cB, rfl, hB, hbB⟩; have hBB := bl_trans hbB ‹Below wr.heap.size wr _›; have hWB := bl_trans hbB ‹Below w.heap.size w _›; have hlB := ‹wr.heap.size < _›; replace hB := And.intro hB.1 (hB.2.mono (by decide) fun b hb _ => Nat.le_trans (Nat.le_of_lt hlB) hb); have hzB := Nat.lt_of_lt_of_le hlB hbB.size; obtain ⟨hcB, _⟩ := bcell hbB; have y0 := (hcB wr.heap.size 0 (by with_reducible assumption)).trans (by with_reducible assumption : _ = some (.int .i64 x.kind)); have y1 := (hcB wr.heap.size 1 (by with_reducible assumption)).trans (by with_reducible assumption : _ = some (.slice B1 x.shape.length d1)); have y2 := (hcB wr.heap.size 2 (by with_reducible assumption)).trans (by with_reducible assumption : _ = some (.slice B2 x.ints.length d2)); have y3 := (hcB wr.heap.size 3 (by with_reducible assumption)).trans (by with_reducible assumption : _ = some (.slice B3 x.decs.length d3)); clear hcB hlB; obtain ⟨a0, a1, a2, a3, b0, b1, b2, b3⟩ := keep8 hBB hgl e0 e1 e2 e3 f0 f1 f2 f3) | (rintro e wC ⟨AC, cC, rfl, hC, hbC⟩; have hBC := bl_trans hbC ‹Below wr.heap.size wr _›; have hWC := bl_trans hbC ‹Below w.heap.size w _›; have hlC := ‹wr.heap.size < _›; replace hC := And.intro hC.1 (hC.2.mono (by decide) fun b hb _ => Nat.le_trans (Nat.le_of_lt hlC) hb); have hzC := Nat.lt_of_lt_of_le hlC hbC.size; obtain ⟨hcC, _⟩ := bcell hbC; have y0 := (hcC wr.heap.size 0 (by with_reducible assumption)).trans (by with_reducible assumption : _ = some (.int .i64 x.kind)); have y1 := (hcC wr.heap.size 1 (by with_reducible assumption)).trans (by with_reducible assumption : _ = some (.slice B1 x.shape.length d1)); have y2 := (hcC wr.heap.size 2 (by with_reducible assumption)).trans (by with_reducible assumption : _ = some (.slice B2 x.ints.length d2)); have y3 := (hcC wr.heap.size 3 (by with_reducible assumption)).trans (by with_reducible assumption : _ = some (.slice B3 x.decs.length d3)); clear hcC hlC; obtain ⟨a0, a1, a2, a3, b0, b1, b2, b3⟩ := keep8 hBC hgl e0 e1 e2 e3 f0 f1 f2 f3)))
          | (go_at_call 41; refine (cloneD_rd _ _ _ (okF ok w.heap.size (.slice (some ⟨g, 0, none⟩) xs.length c1)) _ (R.out.2.2.1.below (by decide) ‹Below wr.heap.size wr _›) R.out.2.2.2.2.2).mono ?_; (first | (have tA := tok1; clear tA tok1; rintro e wA ⟨AA, cA, rfl, hA, hbA⟩; have hBA := bl_trans hbA ‹Below wr.heap.size wr _›; have hWA := bl_trans hbA ‹Below w.heap.size w _›; have hlA := ‹wr.heap.size < _›; replace hA := And.intro hA.1 (hA.2.mono (by decide) fun b hb _ => Nat.le_trans (Nat.le_of_lt hlA) hb); have hzA := Nat.lt_of_lt_of_le hlA hbA.size; obtain ⟨hcA, _⟩ := bcell hbA; have y0 := (hcA wr.heap.size 0 (by with_reducible assumption)).trans (by with_reducible assumption : _ = some (.int .i64 x.kind)); have y1 := (hcA wr.heap.size 1 (by with_reducible assumption)).trans (by with_reducible assumption : _ = some (.slice B1 x.shape.length d1)); have y2 := (hcA wr.heap.size 2 (by with_reducible assumption)).trans (by with_reducible assumption : _ = some (.slice B2 x.ints.length d2)); have y3 := (hcA wr.heap.size 3 (by with_reducible assumption)).trans (by with_reducible assumption : _ = some (.slice B3 x.decs.length d3)); clear hcA hlA; obtain ⟨a0, a1, a2, a3, b0, b1, b2, b3⟩ := keep8 hBA hgl e0 e1 e2 e3 f0 f1 f2 f3) | (have tB := tok2; clear tB tok2; rintro e wB ⟨AB, cB, rfl, hB, hbB⟩; have hBB := bl_trans hbB ‹Below wr.heap.size wr _›; have hWB := bl_trans hbB ‹Below w.heap.size w _›; have hlB := ‹wr.heap.size < _›; replace hB := And.intro hB.1 (hB.2.mono (by decide) fun b hb _ => Nat.le_trans (Nat.le_of_lt hlB) hb); have hzB := Nat.lt_of_lt_of_le hlB hbB.size; obtain ⟨hcB, _⟩ := bcell hbB; have y0 := (hcB wr.heap.size 0 (by with_reducible assumption)).trans (by with_reducible assumption : _ = some (.int .i64 x.kind)); have y1 := (hcB wr.heap.size 1 (by with_reducible assumption)).trans (by with_reducible assumption : _ = some (.slice B1 x.shape.length d1)); have y2 := (hcB wr.heap.size 2 (by with_reducible assumption)).trans (by with_reducible assumption : _ = some (.slice B2 x.ints.length d2)); have y3 := (hcB wr.heap.size 3 (by with_reducible assumption)).trans (by with_reducible assumption : _ = some (.slice B3 x.decs.length d3)); clear hcB hlB; obtain ⟨a0, a1, a2, a3, b0, b1, b2, b3⟩ := keep8 hBB hgl e0 e1 e2 e3 f0 f1 f2 f3) | (rintro e wC ⟨AC, cC, rfl, hC, hbC⟩; have hBC := bl_trans hbC ‹Below wr.heap.size wr _›; have hWC := bl_trans hbC ‹Below w.heap.size w _›; have hlC := ‹wr.heap.size < _›; replace hC := And.intro hC.1 (hC.2.mono (by decide) fun b hb _ => Nat.le_trans (Nat.le_of_lt hlC) hb); have hzC := Nat.lt_of_lt_of_le hlC hbC.size; obtain ⟨hcC, _⟩ := bcell hbC; have y0 := (hcC wr.heap.size 0 (by with_reducible assumption)).trans (by with_reducible assumption : _ = some (.int .i64 x.kind)); have y1 := (hcC wr.heap.size 1 (by with_reducible assumption)).trans (by with_reducible assumption : _ = some (.slice B1 x.shape.length d1)); have y2 := (hcC wr.heap.size 2 (by with_reducible assumption)).trans (by with_reducible assumption : _ = some (.slice B2 x.ints.length d2)); have y3 := (hcC wr.heap.size 3 (by with_reducible assumption)).trans (by with_reducible assumption : _ = some (.slice B3 x.decs.length d3)); clear hcC hlC; obtain ⟨a0, a1, a2, a3, b0, b1, b2, b3⟩ := keep8 hBC hgl e0 e1 e2 e3 f0 f1 f2 f3))))
      all_goals
        go_wp2
        go_roundg (xs.length - (k + 1))
        case measure => omega
        case rel =>
          have mA := And.intro hA.1 ((hA.2.below (by decide) hbB).below (by decide) hbC)
          have mB := And.intro hB.1 (hB.2.below (by decide) hbC)
          first
            | (obtain ⟨ct', k1, k2⟩ := copy_round HO.out hparts.out hxk.out hBC hgb hgl mA mB hC; exact ⟨k + 1, ct', by omega, rfl, by go_num, k1, k2, set4_below hWC hgb⟩)
            | (obtain ⟨ct', k1, k2⟩ := copy_round HO.out hparts.out hxk.out hBC hgb hgl mB mA hC; exact ⟨k + 1, ct', by omega, rfl, by go_num, k1, k2, set4_below hWC hgb⟩)
            | (obtain ⟨ct', k1, k2⟩ := copy_round HO.out hparts.out hxk.out hBC hgb hgl mA hC mB; exact ⟨k + 1, ct', by omega, rfl, by go_num, k1, k2, set4_below hWC hgb⟩)
            | (obtain ⟨ct', k1, k2⟩ := copy_round HO.out hparts.out hxk.out hBC hgb hgl mB hC mA; exact ⟨k + 1, ct', by omega, rfl, by go_num, k1, k2, set4_below hWC hgb⟩)
            | (obtain ⟨ct', k1, k2⟩ := copy_round HO.out hparts.out hxk.out hBC hgb hgl hC mA mB; exact ⟨k + 1, ct', by omega, rfl, by go_num, k1, k2, set4_below hWC hgb⟩)
            | (obtain ⟨ct', k1, k2⟩ := copy_round HO.out hparts.out hxk.out hBC hgb hgl hC mB mA; exact ⟨k + 1, ct', by omega, rfl, by go_num, k1, k2, set4_below hWC hgb⟩)
    · have hkn : k = xs.length := by omega
      go_wp2
      go_ret
      exact ⟨_, ct, rfl, hown, hparts.out, hb2⟩
end Go.Proofs.T
namespace Go.Proofs.T
open Go.RowKit
section
variable {α : Type} {L : Ly α} {w w' : World} {ok : Nat → Prop}
theorem Rd.drop (hz : 0 < L.sz) {b o n : Nat} {xs : List α} (h : Rd L w ok (some ⟨b, o, none⟩) n xs) (k : Nat) (hk : k ≤ n) : Rd L w ok (some ⟨b, o + k * L.sz, none⟩) (n - k) (xs.drop k) := by
  refine ⟨by rw [List.length_drop, h.len], by have := h.max; omega, fun hn => ?_⟩
  obtain ⟨b', o', e, hb, hr⟩ := h.row (by omega)
  injection e with e; injection e with e1 e2; subst e1; subst e2
  refine ⟨b, o + k * L.sz, rfl, hb, fun i x hx => ?_⟩
  obtain ⟨cs, h1, h2⟩ := hr (k + i) x (by rw [List.getElem?_drop] at hx; exact hx)
  refine ⟨cs, h1, fun j u hu => ?_⟩
  have := h2 j u hu
  rwa [show o + ((k + i) * L.sz + j) = o + k * L.sz + (i * L.sz + j) by rw [Nat.add_mul]; omega] at this
theorem Rd.take {A : Option Addr} {n : Nat} {xs : List α} (h : Rd L w ok A n xs) (k : Nat) (hk : k ≤ n) : Rd L w ok A k (xs.take k) := by
  refine ⟨by rw [List.length_take, h.len]; omega, by have := h.max; omega, fun hn => ?_⟩
  obtain ⟨b, o, e, hb, hr⟩ := h.row (by omega)
  exact ⟨b, o, e, hb, fun i x hx => hr i x (by
    rw [List.getElem?_take] at hx
    split at hx
    · exact hx
    · cases hx)⟩
/-- Behind an append to the row (in place, or somewhere new) its elements read as they did. -/
theorem Parts.grown {B : Nat} {v v1 : Value} {w1 : World} {xs : List α} {cs : List Value} (hp : Parts L w (okF ok B v) xs cs) (hg : w.grownBy w1 v.ownBlock) (hat : v1.ownBlock = v.ownBlock ∨ ∃ b, v1.ownBlock = some b ∧ w.heap.size ≤ b) : Parts L w1 (okF ok B v1) xs cs := by
  refine (hp.mono (ok' := fun b => okF ok B v b ∧ b < w.heap.size) fun b hb hlt => ⟨hb, hlt⟩).move (w' := w1) (fun b hb hlt => hg.block b hlt (fun e => hb.1.2 e.symm)) |>.mono fun b hb _ => ⟨hb.1.1, fun e => ?_⟩
  rcases hat with hat | ⟨b', hat, hle⟩
  · exact hb.1.2 (hat ▸ e)
  · rw [hat] at e
    injection e with e
    have := hb.2
    omega
end
def kidsL : Nat → List Node → List (List Node)
  | 0, _ => []
  | _ + 1, [] => []
  | n + 1, a => a.take (takeN a).toNat :: kidsL n (a.drop (takeN a).toNat)
/-- The arrays that stand in one. -/
def kidsN (a : List Node) : List (List Node) :=
  if rightA a = true ∧ (a.head?.map Node.kind) = some 5 then kidsL a.length a.tail else []
end Go.Proofs.T
namespace Go.Proofs.T
theorem dec1_app {s : List Int} (h : s ≠ []) (t : List Int) : dec1 (s ++ t) = dec1 s ++ t := by
  cases s with
  | nil => exact absurd rfl h
  | cons a r => rfl
theorem popZ_nil : popZ [] = [] := rfl
theorem popZ_app (c : Int) (st : List Int) : ∀ (n : Nat) (s : List Int), s.length = n → s ≠ [] → popZ (s ++ c :: st) = if popZ s = [] then popZ ((c - 1) :: st) else popZ s ++ c :: st
  | 0, s, hn, h => absurd (List.eq_nil_of_length_eq_zero hn) h
  | n + 1, [], hn, _ => by simp at hn
  | n + 1, x :: r, hn, _ => by
    by_cases h0 : x = 0
    · subst h0
      rw [List.cons_append, popZ_zero, popZ_zero]
      cases r with
      | nil => rw [show dec1 [] = [] from rfl, popZ_nil, if_pos rfl]; rfl
      | cons y t =>
        rw [dec1_app (by simp)]
        exact popZ_app c st n (dec1 (y :: t)) (by rw [dec1_len]; simpa using hn) (by simp [dec1])
    · rw [popZ_stop r h0, List.cons_append, popZ_stop _ h0, if_neg (by simp)]
theorem itemsN_nn {n : Node} (h : ¬ itemsN n < 0) : 0 ≤ itemsN n := by omega

/-- A walk on a stack goes as on the stack's upper part alone, till that is used up. -/
theorem walk_local (c : Int) (st : List Int) : ∀ (xs : List Node) (s : List Int) (k all d kl al dl : Int), al ≤ all → (walkL xs k all d (s ++ c :: st)).1 ≠ 0 → 0 ≤ k →
    ∃ (m : Nat) (it dp : Int), 1 ≤ m ∧ m ≤ xs.length ∧ 0 ≤ it ∧ walkL xs kl al dl s = (kl + m, al + it, dp) ∧
      ∃ d', walkL xs k all d (s ++ c :: st) = if popZ ((c - 1) :: st) = [] then (k + m, all + it, d') else walkL (xs.drop m) (k + m) (all + it) d' (popZ ((c - 1) :: st))
  | [], s, k, all, d, kl, al, dl, ha, h, hk => absurd rfl h
  | n :: rest, s, k, all, d, kl, al, dl, ha, h, hk => by
    rw [walkL_cons] at h
    rw [walkL_cons, walkL_cons]
    by_cases g1 : itemsN n < 0
    · rw [if_pos g1] at h; exact absurd rfl h
    by_cases g2 : 1048576 < all + itemsN n
    · rw [if_neg g1, if_pos g2] at h; exact absurd rfl h
    by_cases g3 : 16 ≤ (s ++ c :: st).length
    · rw [if_neg g1, if_neg g2, if_pos g3] at h; exact absurd rfl h
    have g3' : ¬ 16 ≤ s.length := by simp at g3; omega
    rw [if_neg g1, if_neg g2, if_neg g3] at h
    rw [if_neg g1, if_neg g2, if_neg g3, if_neg g1, if_neg (by omega), if_neg g3']
    have i0 := itemsN_nn g1
    -- the stacks behind the node
    obtain ⟨s1, hs1, hs2⟩ : ∃ s1, (if n.kind = 5 then itemsN n :: s else dec1 s) = s1 ∧ (s1 ≠ [] → (if n.kind = 5 then itemsN n :: (s ++ c :: st) else dec1 (s ++ c :: st)) = s1 ++ c :: st) ∧ (s1 = [] → (if n.kind = 5 then itemsN n :: (s ++ c :: st) else dec1 (s ++ c :: st)) = (c - 1) :: st) := by
      refine ⟨_, rfl, ?_, ?_⟩
      · intro hne
        by_cases g5 : n.kind = 5
        · rw [if_pos g5, if_pos g5]; rfl
        · rw [if_neg g5] at hne
          rw [if_neg g5, if_neg g5]
          exact dec1_app (fun e => hne (by rw [e]; rfl)) _
      · intro he
        by_cases g5 : n.kind = 5
        · rw [if_pos g5] at he; cases he
        · rw [if_neg g5] at he
          rw [if_neg g5]
          obtain rfl : s = [] := by
            cases s with
            | nil => rfl
            | cons a r => cases he
          rfl
    rw [hs1]
    by_cases he : popZ s1 = []
    · rw [if_pos he]
      have hpop : popZ (if n.kind = 5 then itemsN n :: (s ++ c :: st) else dec1 (s ++ c :: st)) = popZ ((c - 1) :: st) := by
        by_cases hne : s1 = []
        · rw [hs2.2 hne]
        · rw [hs2.1 hne, popZ_app c st _ s1 rfl hne, if_pos he]
      refine ⟨1, itemsN n, max dl (s.length + 1), by omega, by simp, i0, by simp, max d ((s ++ c :: st).length + 1), ?_⟩
      rw [hpop]
      rfl
    · rw [if_neg he]
      have hne : s1 ≠ [] := fun e => he (by rw [e]; rfl)
      have hpop : popZ (if n.kind = 5 then itemsN n :: (s ++ c :: st) else dec1 (s ++ c :: st)) = popZ s1 ++ c :: st := by
        rw [hs2.1 hne, popZ_app c st _ s1 rfl hne, if_neg he]
      rw [hpop] at h ⊢
      rw [if_neg (by simp)] at h ⊢
      obtain ⟨m, it, dp, h1, h2, h3, h4, d', h5⟩ := walk_local c st rest (popZ s1) (k + 1) (all + itemsN n) (max d ((s ++ c :: st).length + 1)) (kl + 1) (al + itemsN n) (max dl (s.length + 1)) (by omega) h (by omega)
      refine ⟨m + 1, itemsN n + it, dp, by omega, by simp; omega, by omega, ?_, d', ?_⟩
      · rw [h4]
        simp only [Prod.mk.injEq]
        refine ⟨by omega, by omega, trivial⟩
      · rw [h5]
        simp only [List.drop_succ_cons]
        rw [show k + 1 + (m : Int) = k + ((m + 1 : Nat) : Int) by omega, show all + itemsN n + it = all + (itemsN n + it) by omega]
end Go.Proofs.T
namespace Go.Proofs.T
/-- Whole arrays stand here, one behind the other. -/
def KidsAt (rest : List Node) : Prop := rest = [] ∨ ∃ c k all d, 0 ≤ k ∧ 0 ≤ all ∧ (walkL rest k all d [c]).1 = k + rest.length
theorem KidsAt.step {rest : List Node} (h : KidsAt rest) (hne : rest ≠ []) : ∃ m : Nat, takeN rest = m ∧ 1 ≤ m ∧ m ≤ rest.length ∧ KidsAt (rest.drop m) := by
  rcases h with h | ⟨c, k, all, d, hk, ha, h⟩
  · exact absurd h hne
  · have hl : 0 < rest.length := List.length_pos_iff.2 hne
    obtain ⟨m, it, dp, h1, h2, h3, h4, d', h5⟩ := walk_local c [] rest [] k all d 0 0 0 (by omega) (by rw [List.nil_append, h]; omega) hk
    refine ⟨m, by unfold takeN walkN; rw [h4]; simp, h1, h2, ?_⟩
    rw [List.nil_append] at h5
    rw [h5] at h
    by_cases hc : popZ [c - 1] = []
    · rw [if_pos hc] at h
      simp only at h
      exact .inl (List.drop_eq_nil_of_le (by omega))
    · rw [if_neg hc] at h
      have hp : popZ [c - 1] = [c - 1] := by
        by_cases h0 : c - 1 = 0
        · rw [h0, popZ_zero] at hc; exact absurd rfl hc
        · exact popZ_stop [] h0
      rw [hp] at h
      refine .inr ⟨c - 1, k + m, all + it, d', by omega, by omega, ?_⟩
      rw [h, List.length_drop]
      omega
theorem KidsAt.of {n : Node} {rest : List Node} (h : rightA (n :: rest) = true) (hk : n.kind = 5) : KidsAt rest := by
  unfold rightA takeN walkN at h
  simp only [Bool.and_eq_true, beq_iff_eq, decide_eq_true_eq] at h
  have h2 := h.2
  rw [walkL_cons] at h2
  have hne : ((n :: rest).length : Int) ≠ 0 := by simp; omega
  by_cases g1 : itemsN n < 0
  · rw [if_pos g1] at h2; exact absurd h2.symm hne
  by_cases g2 : 1048576 < 0 + itemsN n
  · rw [if_neg g1, if_pos g2] at h2; exact absurd h2.symm hne
  by_cases g3 : 16 ≤ ([] : List Int).length
  · simp at g3
  rw [if_neg g1, if_neg g2, if_neg g3, if_pos hk] at h2
  by_cases hp : popZ [itemsN n] = []
  · rw [if_pos hp] at h2
    simp only [List.length_cons] at h2
    exact .inl (List.eq_nil_of_length_eq_zero (by omega))
  · rw [if_neg hp] at h2
    have he : popZ [itemsN n] = [itemsN n] := by
      by_cases h0 : itemsN n = 0
      · rw [h0, popZ_zero] at hp; exact absurd rfl hp
      · exact popZ_stop [] h0
    rw [he] at h2
    refine .inr ⟨_, 0 + 1, _, _, by omega, by omega, h2.trans ?_⟩
    simp only [List.length_cons]
    omega
end Go.Proofs.T
namespace Go.Proofs.T
open Go.RowKit
theorem info22 : (Tryz.prog.info? 22).map (fun i => (i.zero, i.size, i.bytes)) = some (some (.slice none 0 0), 1, 24) := by kernel_rfl
def lNodes : Ly (List Node) := lNode.sl (by decide)
def InOk (xs : List Node) : Prop := ∀ x ∈ xs, x.shape.length ≤ 1000000000 ∧ x.ints.length ≤ 1000000000 ∧ x.decs.length ≤ 1000000000
theorem kidsL_cons (f : Nat) {a : List Node} (h : a ≠ []) : kidsL (f + 1) a = a.take (takeN a).toNat :: kidsL f (a.drop (takeN a).toNat) := by
  cases a with
  | nil => exact absurd rfl h
  | cons y ys => rfl
theorem kids_round {w w2 w9 w10 : World} {ok : Nat → Prop} {A0 A9 : Option Addr} {c0 m c9 gg cap : Nat} {done : List (List Node)} {cs ds : List Value} {x : List Node}
    (hok : ∀ b, ok b → b < w.heap.size) (hB : w.heap.size ≤ w2.heap.size) (hown : w2.ownsRow w.heap.size 22 1 (.slice A0 done.length c0) done.length cs) (hp : Parts lNodes w2 (okF ok w.heap.size (.slice A0 done.length c0)) done cs)
    (hm : x.length = m) (hmx : m ≤ 1000000000) (k1 : w9.ownsRow w2.heap.size 28 4 (.slice A9 m c9) x.length ds) (k2 : Parts lNode w9 (okF ok w2.heap.size (.slice A9 m c9)) x ds) (k3 : Below w2.heap.size w2 w9)
    (hgrow : (w9.alloc (.cells #[.slice A9 m c9] 22)).grownBy w10 (Value.slice A0 done.length c0).ownBlock) (hat : (Value.slice A0 done.length c0).ownBlock = some gg ∨ gg = w9.heap.size + 1) :
    Parts lNodes w10 (okF ok w.heap.size (.slice (some ⟨gg, 0, none⟩) (done.length + 1) cap)) (done ++ [x]) (cs ++ [.slice A9 m c9]) := by
  have hat' : (Value.slice (some ⟨gg, 0, none⟩) (done.length + 1) cap).ownBlock = (Value.slice A0 done.length c0).ownBlock ∨ ∃ b, (Value.slice (some ⟨gg, 0, none⟩) (done.length + 1) cap).ownBlock = some b ∧ (w9.alloc (.cells #[.slice A9 m c9] 22)).heap.size ≤ b := by
    rcases hat with h | h
    · exact .inl (by rw [h]; rfl)
    · exact .inr ⟨gg, rfl, by rw [h]; simp⟩
  have hr0 : ∀ r, (Value.slice A0 done.length c0).ownBlock = some r → w.heap.size ≤ r ∧ r < w2.heap.size := fun r hr => hown.lt r hr
  have p1 : Parts lNodes (w9.alloc (.cells #[.slice A9 m c9] 22)) (okF ok w.heap.size (.slice A0 done.length c0)) done cs :=
    hp.move fun b _ hlt => (bl_alloc k3 _).block b hlt
  -- the new element, before the append
  have k2' : Parts lNode w9 (fun b => ok b ∨ w2.heap.size ≤ b) x ds := k2.mono fun b hb _ => hb.1
  obtain ⟨A', c', e, hc, hrd⟩ := Rd.own (L := lNode) (by rw [hm]; rw [hm] at k1; exact k1) k2' (fun b hb => .inr (own_base k1 b hb)) (by omega)
  injection e with e1 e2 e3
  subst e1; subst e3
  have p2 : Parts lNodes (w9.alloc (.cells #[.slice A9 m c9] 22)) (okF ok w.heap.size (.slice A0 done.length c0)) [x] [.slice A9 m c9] := by
    refine Parts.single ⟨A9, c9, by rw [hm], hc, (hrd.alloc (by decide) _).mono (by decide) fun b hb _ => ⟨?_, fun e => ?_⟩⟩
    · rcases hb with hb | hb
      · exact .inl hb
      · exact .inr (by omega)
    · have := hr0 b e
      rcases hb with hb | hb
      · have := hok b hb; omega
      · omega
  exact (p1.append p2).grown hgrow hat'
set_option maxHeartbeats 4000000 in
set_option maxRecDepth 100000 in
theorem kids_some (b o c : Nat) (n0 : Node) (rest0 : List Node) (ok : Nat → Prop) (w : World) (h : Rd lNode w ok (some ⟨b, o, none⟩) (n0 :: rest0).length (n0 :: rest0)) (hc : (n0 :: rest0).length ≤ c) (hx : NodesOk (n0 :: rest0)) (hlen : (n0 :: rest0).length ≤ 1000000000) (hin : InOk (n0 :: rest0))
    (hr : rightA (n0 :: rest0) = true) (hk5 : n0.kind = 5) (hokw : ∀ b, ok b → b < w.heap.size) :
    Calls Tryz.prog 9 #[.slice (some ⟨b, o, none⟩) (n0 :: rest0).length c] w fun e w' => ∃ v cs, e = .returned v ∧ w'.ownsRow w.heap.size 22 1 v (kidsL (n0 :: rest0).length rest0).length cs ∧ Parts lNodes w' (okF ok w.heap.size v) (kidsL (n0 :: rest0).length rest0) cs ∧ Below w.heap.size w w' := by
  obtain ⟨A1, c1, A2, c2, A3, c3, q0, _⟩ := h.at4 0 (by simp)
  have hra := arrayRight_any (some ⟨b, o, none⟩) c (n0 :: rest0) ok w h hx hlen
  rw [hr] at hra
  have HA := Lib.hid hra
  have hq0 : w.cell? ⟨b, o, none⟩ = some (.int .i64 5) := by rw [← hk5]; simpa using q0
  have hd := h.drop (by decide) 1 (by simp)
  have hm := h.max
  simp only [List.length_cons, Nat.add_sub_cancel, List.drop_succ_cons, List.drop_zero] at hd hc hlen hm
  have HD := Lib.hid hd
  have HK := Lib.hid (KidsAt.of hr hk5)
  have HN := Lib.hid (And.intro hx hin)
  have HOKK : Hid (∀ b, ok b → b < w.heap.size) := hokw
  clear hra h hx hin hr hk5 q0 hd hokw
  simp only [List.length_cons] at HA ⊢
  by_cases hcap : c = 1
  · subst hcap
    obtain rfl : rest0 = [] := List.eq_nil_of_length_eq_zero (by omega)
    simp only [List.length_nil, Nat.zero_add] at HA hc hm hlen ⊢
    go_enter Tryz.func9, Tryz.ntmps9
    go_wp2_with (go_at_call 22; refine HA.out.mono ?_; rintro e w1 ⟨rfl, hb⟩; obtain ⟨hc1, hf1⟩ := bcell hb; have hbl := cell_lt hq0)
    go_loopg [0, 2, 3] 0 (fun gg s0 s2 _ wr => (∃ A' c', s0 = .slice A' 0 c') ∧ s2 = .slice none 0 0 ∧ Below w.heap.size w wr)
    case atStart => exact ⟨⟨_, _, rfl⟩, rfl, hb⟩
    case round =>
      obtain ⟨⟨A', c', rfl⟩, rfl, hbw⟩ := hrel
      go_wp2
      go_ret
      exact ⟨_, [], rfl, World.ownsRow_nil _ _ _ _, rfl, hbw⟩
  · have hc1' : rest0.length ≤ c - 1 := by omega
    go_enter Tryz.func9, Tryz.ntmps9
    go_wp2_with (go_at_call 22; refine HA.out.mono ?_; rintro e w1 ⟨rfl, hb⟩; obtain ⟨hc1, hf1⟩ := bcell hb; have hbl := cell_lt hq0)
    go_loopg [0, 2, 3] rest0.length (fun gg s0 s2 _ wr => ∃ (rest : List Node) (A' : Option Addr) (c' : Nat) (v : Value) (cs : List Value) (done : List (List Node)), s0 = .slice A' rest.length c' ∧ v = s2 ∧ gg = rest.length ∧ rest.length ≤ c' ∧ done.length + rest.length ≤ rest0.length ∧
      wr.ownsRow w.heap.size 22 1 v done.length cs ∧ Below w.heap.size w wr ∧ Hid (Rd lNode w ok A' rest.length rest ∧ KidsAt rest ∧ Parts lNodes wr (okF ok w.heap.size v) done cs ∧ (∃ f, rest.length ≤ f ∧ done ++ kidsL f rest = kidsL (rest0.length + 1) rest0) ∧ NodesOk rest ∧ InOk rest))
    case atStart => exact ⟨rest0, _, _, _, [], [], rfl, rfl, rfl, hc1', by simp, World.ownsRow_nil _ _ _ _, hb, HD.out, HK.out, rfl, ⟨_, by omega, rfl⟩, fun x hx => HN.out.1 x (List.mem_cons_of_mem _ hx), fun x hx => HN.out.2 x (List.mem_cons_of_mem _ hx)⟩
    case round =>
      obtain ⟨rest, A', c', v, cs, done, rfl, rfl, rfl, hrc, hdl, hown, hbw, H⟩ := hrel
      obtain ⟨A0, c0, rfl⟩ := own_form hown
      by_cases hne : rest = []
      · subst hne
        have hfin : Hid (done = kidsL (rest0.length + 1) rest0) := by
          obtain ⟨f, _, hf⟩ := H.out.2.2.2.1
          cases f with
          | zero => rw [← hf]; simp [kidsL, Hid]
          | succ f => rw [← hf]; simp [kidsL, Hid]
        simp only [List.length_nil] at hrc
        go_wp2
        go_ret
        exact ⟨_, cs, rfl, by rw [← hfin.out]; exact hown, by rw [← hfin.out]; exact H.out.2.2.1, hbw⟩
      · have hl : 0 < rest.length := List.length_pos_iff.2 hne
        obtain ⟨m, ht, hm1, hm2, hka⟩ := H.out.2.1.step hne
        obtain ⟨b', o', rfl, _⟩ := H.out.1.row hl
        have htk := take_any (some ⟨b', o', none⟩) c' rest ok wr (H.out.1.below (by decide) hbw) H.out.2.2.2.2.1 (by omega)
        rw [ht] at htk
        have hcp : ∀ W, Below w.heap.size w W → Calls Tryz.prog 24 #[.slice (some ⟨b', o', none⟩) m c'] W fun e w' => ∃ A9 c9 ds, e = .returned (.slice A9 m c9) ∧ w'.ownsRow W.heap.size 28 4 (.slice A9 m c9) (rest.take m).length ds ∧ Parts lNode w' (okF ok W.heap.size (.slice A9 m c9)) (rest.take m) ds ∧ Below W.heap.size W w' := by
          intro W hW
          have hlt : (rest.take m).length = m := by rw [List.length_take]; omega
          have := copy_any (some ⟨b', o', none⟩) c' (rest.take m) ok W (by rw [hlt]; exact (H.out.1.take m hm2).below (by decide) hW) (fun x hx => H.out.2.2.2.2.1 x (List.mem_of_mem_take hx)) (by omega) (fun x hx => H.out.2.2.2.2.2 x (List.mem_of_mem_take hx))
          rw [hlt] at this ⊢
          refine this.mono ?_
          rintro e w' ⟨v, ds, rfl, k1, k2, k3⟩
          obtain ⟨A9, c9, rfl⟩ := own_form k1
          exact ⟨A9, c9, ds, rfl, k1, k2, k3⟩
        have HT := Lib.hid htk; have HCp := Lib.hid hcp; have HK2 := Lib.hid (And.intro ht hka)
        clear htk hcp ht hka
        obtain ⟨i0, hi0, hz0, hz1, hz2⟩ := info_parts info22
        have HZ := Lib.hid (And.intro hi0 (And.intro hz0 (And.intro hz1 hz2)))
        clear hi0 hz0 hz1 hz2
        have HOw := Lib.hid hown
        have hmi0 : (0 : Int) ≤ (m : Int) := by omega
        have hmi1 : (m : Int) ≤ (rest.length : Int) := by omega
        have hmi2 : (m : Int) ≤ (c' : Int) := by omega
        by_cases hcm : c' = m
        · subst hcm
          go_wp2_with (go_at_call 23; refine HT.out.mono ?_; rintro e w2 ⟨rfl, hb2⟩)
          have hbw2 := bl_trans hb2 hbw
          go_region_held3 (fun w' => Below w.heap.size w w')
            (first | with_reducible assumption | exact bl_drew (by with_reducible assumption) | exact bl_alloc (by with_reducible assumption) _ | exact bl_drew (bl_alloc (by with_reducible assumption) _))
            (first
              | (go_at_call 24; refine (HCp.out _ (by first | with_reducible assumption | exact bl_drew (by with_reducible assumption))).mono ?_; rintro e w9 ⟨A9, c9, ds, rfl, k1, k2, k3⟩; have hbw9 := bl_trans k3 (by first | with_reducible assumption | exact bl_drew (by with_reducible assumption)))
              | (refine step_append_lies _ (by rfl) (.tmp 21) (.tmp 26) 29 (by rfl) w.heap.size 22 i0 (.slice none 0 0) 1 24 Tryz.underlying29 HZ.out.1 HZ.out.2.1 HZ.out.2.2.1 HZ.out.2.2.2 rfl (by omega) (.slice A0 done.length c0) done.length cs (by rfl) ((own_below ((own_below HOw.out hb2).drew) k3).alloc _) ⟨w9.heap.size, 0, none⟩ 1 1 [.slice A9 c' c9] (by rfl) (by rfl) (World.news_of_block (cs := #[.slice A9 c' c9]) (t := 22) (fr := (0, 0)) (heap_alloc_new w9 _)) (by simp [Value.oneCell']) (by omega) (by unfold maxLen; omega) (by omega) (bl_alloc hbw9 _).size (w9.heap.size + 1) (by simp) ?_; intro gg cap w10 hown10 hgrow hat hlt; have hbw10 := bl_grown (bl_alloc hbw9 _) hgrow (fun k hk => own_base HOw.out k hk)))
          go_wp2
          go_roundg (rest.length - c')
          case measure => omega
          case rel =>
            have hll : (rest.take c').length = c' := by rw [List.length_take]; omega
            refine ⟨rest.drop c', _, _, _, _, done ++ [rest.take c'], by rw [List.length_drop, show rest.length - c' = 0 by omega], rfl, by rw [List.length_drop], by rw [List.length_drop]; omega, by simp; omega, by rw [List.length_append]; exact hown10, hbw10, ?_, HK2.out.2, ?_, ?_, fun x hx => H.out.2.2.2.2.1 x (List.mem_of_mem_drop hx), fun x hx => H.out.2.2.2.2.2 x (List.mem_of_mem_drop hx)⟩
            · have e0 : rest.drop c' = [] := List.drop_eq_nil_of_le (by omega)
              rw [e0]; exact Rd.nil _ _ _ _
            · exact kids_round (w2 := w2.drew) HOKK.out (bl_drew (bl_trans hb2 hbw)).size (own_below HOw.out hb2).drew (H.out.2.2.1.move fun b _ hlt => hb2.block b hlt) hll (by omega) k1 k2 k3 hgrow hat
            · obtain ⟨f, hf1, hf2⟩ := H.out.2.2.2.1
              cases f with
              | zero => omega
              | succ f =>
                refine ⟨f, by rw [List.length_drop]; omega, ?_⟩
                rw [← hf2, List.append_assoc]
                rw [kidsL_cons f hne, HK2.out.1, Int.toNat_natCast]; rfl
        · go_wp2_with (go_at_call 23; refine HT.out.mono ?_; rintro e w2 ⟨rfl, hb2⟩)
          have hbw2 := bl_trans hb2 hbw
          go_region_held3 (fun w' => Below w.heap.size w w')
            (first | with_reducible assumption | exact bl_drew (by with_reducible assumption) | exact bl_alloc (by with_reducible assumption) _ | exact bl_drew (bl_alloc (by with_reducible assumption) _))
            (first
              | (go_at_call 24; refine (HCp.out _ (by first | with_reducible assumption | exact bl_drew (by with_reducible assumption))).mono ?_; rintro e w9 ⟨A9, c9, ds, rfl, k1, k2, k3⟩; have hbw9 := bl_trans k3 (by first | with_reducible assumption | exact bl_drew (by with_reducible assumption)))
              | (refine step_append_lies _ (by rfl) (.tmp 21) (.tmp 26) 29 (by rfl) w.heap.size 22 i0 (.slice none 0 0) 1 24 Tryz.underlying29 HZ.out.1 HZ.out.2.1 HZ.out.2.2.1 HZ.out.2.2.2 rfl (by omega) (.slice A0 done.length c0) done.length cs (by rfl) ((own_below ((own_below HOw.out hb2).drew) k3).alloc _) ⟨w9.heap.size, 0, none⟩ 1 1 [.slice A9 m c9] (by rfl) (by rfl) (World.news_of_block (cs := #[.slice A9 m c9]) (t := 22) (fr := (0, 0)) (heap_alloc_new w9 _)) (by simp [Value.oneCell']) (by omega) (by unfold maxLen; omega) (by omega) (bl_alloc hbw9 _).size (w9.heap.size + 1) (by simp) ?_; intro gg cap w10 hown10 hgrow hat hlt; have hbw10 := bl_grown (bl_alloc hbw9 _) hgrow (fun k hk => own_base HOw.out k hk)))
          go_wp2
          go_roundg (rest.length - m)
          case measure => omega
          case rel =>
            have hll : (rest.take m).length = m := by rw [List.length_take]; omega
            refine ⟨rest.drop m, _, _, _, _, done ++ [rest.take m], by rw [List.length_drop], rfl, by rw [List.length_drop], by rw [List.length_drop]; omega, by simp; omega, by rw [List.length_append]; exact hown10, hbw10, ?_, HK2.out.2, ?_, ?_, fun x hx => H.out.2.2.2.2.1 x (List.mem_of_mem_drop hx), fun x hx => H.out.2.2.2.2.2 x (List.mem_of_mem_drop hx)⟩
            · have := H.out.1.drop (by decide) m hm2
              rw [List.length_drop]; exact this
            · exact kids_round (w2 := w2.drew) HOKK.out (bl_drew (bl_trans hb2 hbw)).size (own_below HOw.out hb2).drew (H.out.2.2.1.move fun b _ hlt => hb2.block b hlt) hll (by omega) k1 k2 k3 hgrow hat
            · obtain ⟨f, hf1, hf2⟩ := H.out.2.2.2.1
              cases f with
              | zero => omega
              | succ f =>
                refine ⟨f, by rw [List.length_drop]; omega, ?_⟩
                rw [← hf2, List.append_assoc]
                rw [kidsL_cons f hne, HK2.out.1, Int.toNat_natCast]; rfl
end Go.Proofs.T
namespace Go.Proofs.T
open Go.RowKit
theorem wholeL_bd : ∀ (n : Nat) (q : Int), I64 q → I64 (wholeL n q).1
  | 0, q, h => h
  | n + 1, q, h => by
    unfold wholeL
    split
    · exact wholeL_bd n _ (wrap64_bd _)
    · unfold I64; simp
theorem wholeD_bd (m e : Int) (h : I64 m) : I64 (wholeD m e).1 := by
  unfold wholeD
  split
  · exact wholeL_bd _ _ h
  · unfold I64; simp
def wholeAll : List Dec → Option (List Int)
  | [] => some []
  | d :: r => if (wholeD d.man d.exp).2 = true then (wholeAll r).map (fun l => (wholeD d.man d.exp).1 :: l) else none
theorem wholeAll_ok : ∀ (l : List Dec) (r : List Int), DecsOk l → wholeAll l = some r → I64s r ∧ r.length = l.length
  | [], r, _, h => by
    obtain rfl : [] = r := by simpa [wholeAll] using h
    exact ⟨fun x hx => (by cases hx), rfl⟩
  | d :: l, r, hd, h => by
    unfold wholeAll at h
    split at h
    · cases hr : wholeAll l with
      | none => rw [hr] at h; cases h
      | some q =>
        rw [hr] at h
        injection h with h; subst h
        have := wholeAll_ok l q (fun x hx => hd x (List.mem_cons_of_mem _ hx)) hr
        refine ⟨fun x hx => ?_, by simp [this.2]⟩
        rcases List.mem_cons.1 hx with rfl | hx
        · exact wholeD_bd _ _ (hd d List.mem_cons_self).1
        · exact this.1 x hx
    · cases h
/-- A fresh slice that reads so. -/
def SlF {α : Type} (L : Ly α) (w : World) (B : Nat) (v : Value) (xs : List α) : Prop := ∃ A c, v = .slice A xs.length c ∧ xs.length ≤ c ∧ Rd L w (fun b => B ≤ b) A xs.length xs
theorem parts_i64 (w : World) (ok : Nat → Prop) : ∀ (xs : List Int), Parts Ly.i64 w ok xs (xs.map (Value.int .i64))
  | [] => rfl
  | x :: xs => ⟨[_], _, rfl, rfl, parts_i64 w ok xs⟩
theorem SlF.ofI {w : World} {B : Nat} {v : Value} {xs : List Int} (h : w.ownsRow B 3 1 v xs.length (xs.map (Value.int .i64))) (hm : xs.length ≤ 9223372036854775807) : SlF Ly.i64 w B v xs :=
  Rd.own (L := Ly.i64) h (parts_i64 w _ xs) (fun b hb => own_base h b hb) hm
theorem SlF.nil {α : Type} (L : Ly α) (w : World) (B : Nat) : SlF L w B (.slice none 0 0) [] := ⟨none, 0, rfl, Nat.le_refl _, Rd.nil _ _ _ _⟩

set_option maxHeartbeats 2000000 in
theorem whole_row (b o c : Nat) (xs : List Dec) (ok : Nat → Prop) (w : World) (h : Rd lDec w ok (some ⟨b, o, none⟩) xs.length xs) (hx : DecsOk xs) (hlen : xs.length ≤ 1000000000) :
    Calls Tryz.prog 39 #[.slice (some ⟨b, o, none⟩) xs.length c] w fun e w' => ∃ v, e = .returned (.tuple #[v, .bool (wholeAll xs).isSome]) ∧ SlF Ly.i64 w' w.heap.size v ((wholeAll xs).getD []) ∧ Below w.heap.size w w' := by
  have hm := h.max
  have HR := Lib.hid h; have HX := Lib.hid hx; clear h hx
  go_enter Tryz.func39, Tryz.ntmps39
  go_wp2
  go_loopg [4, 6, 7, 8, 11] xs.length (fun gg s4 _ _ _ i wr => ∃ (k : Nat) (v : Value) (done : List Int), v = s4 ∧ k ≤ xs.length ∧ gg = xs.length - k ∧ i = .int .i64 k ∧ done.length = k ∧ wr.ownsRow w.heap.size 3 1 v k (done.map (Value.int .i64)) ∧ Below w.heap.size w wr ∧ Hid ((wholeAll (xs.drop k)).map (fun l => done ++ l) = wholeAll xs))
  case atStart => exact ⟨0, _, [], rfl, by omega, by omega, rfl, rfl, World.ownsRow_nil _ _ _ _, Below.refl _ _, by simp [Hid]⟩
  case round =>
    obtain ⟨k, v, done, rfl, hk, rfl, rfl, hdl, hown, hb, H⟩ := hrel
    obtain ⟨A0, c0, rfl⟩ := own_form hown
    by_cases hlt : k < xs.length
    · obtain ⟨e0, e1⟩ := (HR.out.below (by decide) hb).atD k hlt
      have hxk := HX.out xs[k] (List.getElem_mem hlt)
      have hd : Hid (xs.drop k = xs[k] :: xs.drop (k + 1)) := List.drop_eq_getElem_cons hlt
      generalize xs[k] = x at e0 e1 hxk hd
      have hw := whole_any x.man x.exp hxk.1 hxk.2
      have hst : Hid (wholeAll xs = if (wholeD x.man x.exp).2 = true then ((wholeAll (xs.drop (k + 1))).map (fun l => done ++ ((wholeD x.man x.exp).1 :: l))) else none) := by
        rw [← H.out, hd.out, wholeAll]
        split
        · rw [Option.map_map]; rfl
        · rfl
      generalize (wholeD x.man x.exp).1 = q at hw hst
      cases hz : (wholeD x.man x.exp).2 with
      | false =>
        rw [hz] at hw hst
        have HW := Lib.hid hw; clear hw hz hxk hdl
        go_wp2_with (go_at_call 19; refine (HW.out _).mono ?_; rintro e w1 ⟨rfl, hb1⟩)
        go_ret2
        have e := hst.out
        rw [if_neg (by decide)] at e
        exact ⟨_, by rw [e]; rfl, by rw [e]; exact SlF.nil _ _ _, bl_trans hb1 (bl_alloc hb _)⟩
      | true =>
        rw [hz] at hw hst
        have HW := Lib.hid hw; have HD := Lib.hid hdl; clear hw hz hxk hdl
        go_wp2_with (first
          | (go_at_call 19; refine (HW.out _).mono ?_; rintro e w1 ⟨rfl, hb1⟩)
          | (at_builtin; refine app_one (w0 := w) w.heap.size rfl (.tmp 22) (.tmp 24) 25 3 (.int .i64 0) 1 8 rfl Tryz.underlying25 info3 rfl (by decide) _ k (done.map (Value.int .i64)) [.int .i64 q] rfl rfl rfl (one_int _) (own_below (hown.alloc _) hb1) (bl_trans hb1 (bl_alloc hb _)) (bl_trans hb1 (bl_alloc hb _)).size (by simp only [maxLen]; omega) (by omega) ?_; intro v1 w2 hown2 hb2 hg2 _))
        go_roundg (xs.length - (k + 1))
        case measure => omega
        case rel => exact ⟨k + 1, v1, done ++ [q], rfl, by omega, rfl, by go_num, by rw [List.length_append, HD.out]; rfl, by rw [List.map_append]; exact hown2, hb2, by
          rw [hst.out]
          simp only [if_true, List.append_assoc]; rfl⟩
    · have hkn : k = xs.length := by omega
      have HF : Hid (wholeAll xs = some done) := by rw [← H.out, hkn, List.drop_length]; simp [wholeAll, Hid]
      have HD := Lib.hid hdl
      clear hkn hdl
      go_wp2
      go_ret2
      exact ⟨_, by rw [HF.out]; rfl, by rw [HF.out]; show SlF Ly.i64 wr _ _ done; exact SlF.ofI (by rw [HD.out]; exact hown) (by rw [HD.out]; omega), hb⟩
set_option maxHeartbeats 400000 in
theorem whole_none (A : Option Addr) (c : Nat) (w : World) :
    Calls Tryz.prog 39 #[.slice A 0 c] w fun e w' => e = .returned (.tuple #[.slice none 0 0, .bool true]) ∧ w = w' := by
  go_enter Tryz.func39, Tryz.ntmps39
  go_wp2
  go_loopg [4, 6, 7, 8, 11] 0 (fun _ s4 _ _ _ i wr => s4 = .slice none 0 0 ∧ i = .int .i64 0 ∧ w = wr)
  case atStart => exact ⟨rfl, rfl, rfl⟩
  case round =>
    obtain ⟨rfl, rfl, rfl⟩ := hrel
    go_wp2
    go_ret2
    exact ⟨rfl, rfl⟩
theorem whole_all (A : Option Addr) (c : Nat) (xs : List Dec) (ok : Nat → Prop) (w : World) (h : Rd lDec w ok A xs.length xs) (hx : DecsOk xs) (hlen : xs.length ≤ 1000000000) :
    Calls Tryz.prog 39 #[.slice A xs.length c] w fun e w' => ∃ v, e = .returned (.tuple #[v, .bool (wholeAll xs).isSome]) ∧ SlF Ly.i64 w' w.heap.size v ((wholeAll xs).getD []) ∧ Below w.heap.size w w' := by
  rcases h.ways with ⟨h0, rfl⟩ | ⟨_, b, o, rfl⟩
  · exact (whole_none A c w).mono fun e w' ⟨h1, h2⟩ => ⟨_, h1, SlF.nil _ _ _, h2 ▸ Below.refl _ _⟩
  · exact whole_row b o c xs ok w h hx hlen
theorem c107 (d : Dec) (hd : DecOk d) (w : World) : Calls Tryz.prog 35 #[decW d] w fun e w' => e = .returned (.bool (!rightD d.man d.exp)) ∧ Below w.heap.size w w' := by
  unfold decW
  have hr := right_any d.man d.exp hd.1 hd.2
  generalize rightD d.man d.exp = q at hr ⊢
  have HR := Lib.hid hr; clear hr
  go_enter Tryz.func35, Tryz.ntmps35
  go_wp2_with (go_at_call 17; refine (HR.out _).mono ?_; rintro e w1 ⟨rfl, hb1⟩)
  go_ret
  exact ⟨rfl, bl_trans hb1 (bl_alloc (Below.refl _ _) _)⟩
theorem pays107 (xs : List Dec) (hxs : DecsOk xs) (w : World) : Pays 35 #[] decW (fun d => !rightD d.man d.exp) xs w := fun W x hx _ => c107 x (hxs x hx) W
theorem eg107 : ∀ args w, (callFunc 35 args).run Tryz.prog w = .ok (.enter 35 args) w := enters_of Tryz.func35 (by kernel_rfl) rfl
theorem c112 (n : Int) (hn : I64 n) (w : World) : Calls Tryz.prog 40 #[.int .i64 n] w fun e w' => e = .returned (.bool (!(n == 0 || n == 1))) ∧ w = w' := by
  have ha := andNot1 n hn
  have HA := Lib.hid ha; clear ha hn
  go_enter Tryz.func40, Tryz.ntmps40
  go_wp2
  go_ret
  exact ⟨by rw [← HA.out]; rfl, rfl⟩
theorem pays112 (xs : List Int) (hxs : I64s xs) (w : World) : Pays 40 #[] (Value.int .i64) (fun n => !(n == 0 || n == 1)) xs w := fun W x hx _ =>
  (c112 x (hxs x hx) W).mono fun _ _ ⟨h1, h2⟩ => ⟨h1, h2 ▸ Below.refl _ _⟩
theorem eg112 : ∀ args w, (callFunc 40 args).run Tryz.prog w = .ok (.enter 40 args) w := enters_of Tryz.func40 (by kernel_rfl) rfl
end Go.Proofs.T
namespace Go.Proofs.T
open Go.RowKit
def ofN (n : Int) : Dec := ⟨(normD n 0).1, (normD n 0).2.1⟩
theorem ofN_ok (n : Int) (h : I64 n) : DecOk (ofN n) := by
  have := norm_bd n 0 h
  exact ⟨this.1, by unfold I64 ofN; simp only; omega⟩
def decCells : List Dec → List Value
  | [] => []
  | d :: r => .int .i64 d.man :: .int .i64 d.exp :: decCells r
theorem decCells_len : ∀ l, (decCells l).length = l.length * 2
  | [] => rfl
  | d :: r => by rw [decCells, List.length_cons, List.length_cons, decCells_len r, List.length_cons]; omega
theorem decCells_app : ∀ l m, decCells (l ++ m) = decCells l ++ decCells m
  | [], m => rfl
  | d :: r, m => by rw [List.cons_append, decCells, decCells_app r m]; rfl
theorem parts_dec (w : World) (ok : Nat → Prop) : ∀ (xs : List Dec), Parts lDec w ok xs (decCells xs)
  | [] => rfl
  | x :: xs => ⟨[.int .i64 x.man, .int .i64 x.exp], _, rfl, ⟨[_], [_], rfl, rfl, rfl⟩, parts_dec w ok xs⟩
theorem dec_of_parts {w : World} {ok : Nat → Prop} : ∀ {xs : List Dec} {cs : List Value}, Parts lDec w ok xs cs → cs = decCells xs
  | [], _, h => h
  | _ :: _, _, ⟨_, _, h, ⟨_, _, rfl, rfl, rfl⟩, h2⟩ => by rw [h, dec_of_parts h2]; rfl
theorem SlF.ofD {w : World} {B : Nat} {v : Value} {xs : List Dec} (h : w.ownsRow B 39 2 v xs.length (decCells xs)) (hm : xs.length ≤ 9223372036854775807) : SlF lDec w B v xs :=
  Rd.own (L := lDec) h (parts_dec w _ xs) (fun b hb => own_base h b hb) hm
theorem one_two {k : IntKind} (x y : Int) : ∀ u ∈ [Value.int k x, Value.int k y], u.oneCell' = true := fun u hu => by
  rcases List.mem_cons.1 hu with rfl | hu
  · rfl
  · rw [List.mem_singleton.1 hu]; rfl
/-- A node's numbers. -/
def numsN (n : Node) : List Dec := if n.kind = 4 then n.decs else n.ints.map ofN
section
variable (kind : Int) (shape ints : List Int) (decs : List Dec) (A1 A2 A3 : Option Addr) (c1 c2 c3 : Nat) (ok : Nat → Prop) (w : World)
set_option maxHeartbeats 2000000 in
theorem numbers_dec : Calls Tryz.prog 69 #[nodeW 4 shape ints decs A1 A2 A3 c1 c2 c3] w fun e w' => e = .returned (.slice A3 decs.length c3) ∧ Below w.heap.size w w' := by
  unfold nodeW
  go_enter Tryz.func69, Tryz.ntmps69
  go_wp2
  go_ret
  exact ⟨rfl, bl_alloc (Below.refl _ _) _⟩
set_option maxHeartbeats 2000000 in
theorem numbers_int (h2 : Rd Ly.i64 w ok A2 ints.length ints) (hi : I64s ints) (hk : kind ≠ 4) (hlen : ints.length ≤ 1000000000) :
    Calls Tryz.prog 69 #[nodeW kind shape ints decs A1 A2 A3 c1 c2 c3] w fun e w' => ∃ v, e = .returned v ∧ SlF lDec w' w.heap.size v (ints.map ofN) ∧ Below w.heap.size w w' := by
  unfold nodeW
  have hk4 : (kind == 4) = false := by simpa using hk
  have hm := h2.max
  rcases h2.ways with ⟨_, rfl⟩ | ⟨_, b, o, rfl⟩
  · clear h2 hk
    simp only [List.length_nil]
    go_enter Tryz.func69, Tryz.ntmps69
    go_wp2
    go_loopg [3, 5, 14] 0 (fun _ s3 _ i wr => s3 = .slice none 0 0 ∧ i = .int .i64 0 ∧ Below w.heap.size w wr)
    case atStart => exact ⟨rfl, rfl, bl_alloc (Below.refl _ _) _⟩
    case round =>
      obtain ⟨rfl, rfl, hb⟩ := hrel
      go_wp2
      go_ret
      exact ⟨_, rfl, SlF.nil _ _ _, hb⟩
  · have HR := Lib.hid h2; have HX := Lib.hid hi; clear h2 hi hk
    go_enter Tryz.func69, Tryz.ntmps69
    go_wp2
    go_loopg [3, 5, 14] ints.length (fun gg s3 _ i wr => ∃ (k : Nat) (v : Value) (done : List Dec), v = s3 ∧ k ≤ ints.length ∧ gg = ints.length - k ∧ i = .int .i64 k ∧ Hid (done.length = k) ∧ wr.ownsRow w.heap.size 39 2 v k (decCells done) ∧ Below w.heap.size w wr ∧ Hid (done ++ (ints.drop k).map ofN = ints.map ofN))
    case atStart => exact ⟨0, _, [], rfl, by omega, by omega, rfl, rfl, World.ownsRow_nil _ _ _ _, bl_alloc (Below.refl _ _) _, rfl⟩
    case round =>
      obtain ⟨k, v, done, rfl, hk, rfl, rfl, HD, hown, hb, H⟩ := hrel
      obtain ⟨A0, c0, rfl⟩ := own_form hown
      by_cases hlt : k < ints.length
      · have e0 := (HR.out.below (by decide) hb).at1 k hlt
        have hxk := HX.out ints[k] (List.getElem_mem hlt)
        have hd : Hid (ints.drop k = ints[k] :: ints.drop (k + 1)) := List.drop_eq_getElem_cons hlt
        generalize ints[k] = x at e0 hxk hd
        have hw := of_any x hxk
        have hst : Hid ((done ++ [ofN x]) ++ (ints.drop (k + 1)).map ofN = ints.map ofN) := by rw [← H.out, hd.out]; simp [Hid]
        have hq : Hid (ofN x = ⟨(normD x 0).1, (normD x 0).2.1⟩) := rfl
        generalize (normD x 0).1 = q1 at hw hq
        generalize (normD x 0).2.1 = q2 at hw hq
        have HW := Lib.hid hw; clear hw hxk
        go_wp2_with (first
          | (go_at_call 15; refine (HW.out _).mono ?_; rintro e w1 ⟨rfl, hb1⟩)
          | (at_builtin; refine app_one (w0 := w) w.heap.size rfl (.tmp 18) (.tmp 21) 26 39 (.agg #[.int .i64 0, .int .i64 0]) 2 16 rfl Tryz.underlying26 info39 rfl (by decide) _ k (decCells done) [.int .i64 q1, .int .i64 q2] rfl rfl rfl (one_two _ _) (own_below hown hb1) (bl_trans hb1 hb) (bl_trans hb1 hb).size (by simp only [maxLen]; omega) (by omega) ?_; intro v1 w2 hown2 hb2 hg2 _))
        go_roundg (ints.length - (k + 1))
        case measure => omega
        case rel => exact ⟨k + 1, v1, done ++ [ofN x], rfl, by omega, rfl, by go_num, by rw [List.length_append, HD.out]; rfl, by rw [decCells_app, hq.out]; exact hown2, hb2, hst⟩
      · have hkn : k = ints.length := by omega
        have HF : Hid (ints.map ofN = done) := by rw [← H.out, hkn, List.drop_length]; simp [Hid]
        clear hkn
        go_wp2
        go_ret
        exact ⟨_, rfl, by rw [HF.out]; exact SlF.ofD (by rw [HD.out]; exact hown) (by rw [HD.out]; omega), hb⟩
end
end Go.Proofs.T
namespace Go.Proofs.T
open Go.RowKit
def zeroN : Node := ⟨0, [], [], []⟩
/-- The array of numbers. -/
def numbersT (s : List Int) (l : List Dec) : Node × Bool :=
  if (countS s).2 = false then (zeroN, false) else if (countS s).1 ≠ (l.length : Int) then (zeroN, false) else if (l.any fun d => !rightD d.man d.exp) = true then (zeroN, false) else
  match wholeAll l with
  | none => (⟨4, s, [], l⟩, true)
  | some is => (⟨if 0 < l.length ∧ (is.any fun n => !(n == 0 || n == 1)) = false then 1 else 2, s, is, []⟩, true)
/-- A node's slices read so. -/
structure NodeAt (w : World) (ok : Nat → Prop) (n : Node) (A1 A2 A3 : Option Addr) (c1 c2 c3 : Nat) : Prop where
  l1 : n.shape.length ≤ c1
  r1 : Rd Ly.i64 w ok A1 n.shape.length n.shape
  l2 : n.ints.length ≤ c2
  r2 : Rd Ly.i64 w ok A2 n.ints.length n.ints
  l3 : n.decs.length ≤ c3
  r3 : Rd lDec w ok A3 n.decs.length n.decs
theorem NodeAt.zero (w : World) (ok : Nat → Prop) : NodeAt w ok zeroN none none none 0 0 0 := ⟨Nat.le_refl _, Rd.nil _ _ _ _, Nat.le_refl _, Rd.nil _ _ _ _, Nat.le_refl _, Rd.nil _ _ _ _⟩
theorem NodeAt.move {w w' : World} {ok : Nat → Prop} {n : Node} {A1 A2 A3 : Option Addr} {c1 c2 c3 : Nat} (h : NodeAt w ok n A1 A2 A3 c1 c2 c3) (hm : ∀ b, ok b → b < w.heap.size → w'.heap[b]? = w.heap[b]?) : NodeAt w' ok n A1 A2 A3 c1 c2 c3 :=
  ⟨h.l1, h.r1.move (by decide) hm, h.l2, h.r2.move (by decide) hm, h.l3, h.r3.move (by decide) hm⟩
theorem NodeAt.mono {w : World} {ok ok' : Nat → Prop} {n : Node} {A1 A2 A3 : Option Addr} {c1 c2 c3 : Nat} (h : NodeAt w ok n A1 A2 A3 c1 c2 c3) (hm : ∀ b, ok b → b < w.heap.size → ok' b) : NodeAt w ok' n A1 A2 A3 c1 c2 c3 :=
  ⟨h.l1, h.r1.mono (by decide) hm, h.l2, h.r2.mono (by decide) hm, h.l3, h.r3.mono (by decide) hm⟩
def nodeV (n : Node) (A1 A2 A3 : Option Addr) (c1 c2 c3 : Nat) : Value := nodeW n.kind n.shape n.ints n.decs A1 A2 A3 c1 c2 c3
/-- What Numbers and joined hand back. -/
def NumPost (w : World) (ok : Nat → Prop) (r : Node × Bool) (e : Ending) (w' : World) : Prop :=
  ∃ A1 A2 A3 c1 c2 c3, e = .returned (.tuple #[nodeV r.1 A1 A2 A3 c1 c2 c3, .bool r.2]) ∧ NodeAt w' ok r.1 A1 A2 A3 c1 c2 c3 ∧ Below w.heap.size w w'
section
variable (s : List Int) (l : List Dec) (A B : Option Addr) (ca cb : Nat) (ok : Nat → Prop) (w : World)
set_option maxHeartbeats 2000000 in
theorem numbersT_no (hs : Rd Ly.i64 w ok A s.length s) (hl : Rd lDec w ok B l.length l) (hx : DecsOk l) (h : (countS s).2 = false ∨ (countS s).1 ≠ (l.length : Int) ∨ (l.any fun d => !rightD d.man d.exp) = true) :
    Calls Tryz.prog 16 #[.slice A s.length ca, .slice B l.length cb] w (NumPost w (fun b => w.heap.size ≤ b) (zeroN, false)) := by
  have hc := fun q => count_any A ca s ok _ (hs.alloc (by decide) q)
  have hm := hl.max
  have HC := Lib.hid hc
  have HL := Lib.hid hl; have HX := Lib.hid hx
  clear hs hl hx hc
  rcases hC : countS s with ⟨k, b⟩
  rw [hC] at h HC
  have fin : ∀ W, Below w.heap.size w W → NumPost w (fun b => w.heap.size ≤ b) (zeroN, false) (.returned (.tuple #[.agg #[.int .i64 0, .slice none 0 0, .slice none 0 0, .slice none 0 0], .bool false])) W := fun W hW => ⟨none, none, none, 0, 0, 0, rfl, NodeAt.zero _ _, hW⟩
  have FIN := Lib.hid fin; clear fin hC
  cases b with
  | false =>
    clear h
    go_enter Tryz.func16, Tryz.ntmps16
    go_wp2_with (go_at_call 36; refine (HC.out _).mono ?_; rintro e w1 ⟨rfl, hb1⟩; obtain ⟨hc1, hf1⟩ := bcell hb1; have z1 : w.heap.size < w1.heap.size := (by have := hb1.size; simp at this; omega))
    exact bodyPost_ret (v := .tuple #[.agg #[.int .i64 0, .slice none 0 0, .slice none 0 0, .slice none 0 0], .bool false]) (by simp [results, Tryz.results16, go_sem, hc1, z1]) rfl (FIN.out _ (bl_set (bl_set (bl_set (bl_set (bl_trans hb1 (bl_alloc (Below.refl _ _) _)) (by simp) _) (by simp) _) (by simp) _) (by simp) _))
  | true =>
    by_cases hk : k = (l.length : Int)
    · have ha : (l.any fun d => !rightD d.man d.exp) = true := by
        rcases h with h | h | h
        · cases h
        · exact absurd hk h
        · exact h
      clear h
      have k1 : (k != (l.length : Int)) = false := by simpa using hk
      have HA := Lib.hid ha
      clear hk ha
      go_enter Tryz.func16, Tryz.ntmps16
      go_wp2_with (first
        | (go_at_call 36; refine (HC.out _).mono ?_; rintro e w1 ⟨rfl, hb1⟩; obtain ⟨hc1, hf1⟩ := bcell hb1; have z1 : w.heap.size < w1.heap.size := (by have := hb1.size; simp at this; omega))
        | (go_at_call 37; refine (contD_any B cb 35 #[] (fun d => !rightD d.man d.exp) l ok _ eg107 ((HL.out.alloc (by decide) _).below (by decide) hb1) (pays107 l HX.out _)).mono ?_; rw [HA.out]; rintro e w2 ⟨rfl, hb2⟩; obtain ⟨hc2, hf2⟩ := bcell hb2; have z2 : w.heap.size < w2.heap.size := Nat.lt_of_lt_of_le z1 hb2.size))
      exact bodyPost_ret (v := .tuple #[.agg #[.int .i64 0, .slice none 0 0, .slice none 0 0, .slice none 0 0], .bool false]) (by simp [results, Tryz.results16, go_sem, hc1, z1, hc2, z2]) rfl (FIN.out _ (bl_set (bl_set (bl_set (bl_set (bl_trans hb2 (bl_trans hb1 (bl_alloc (Below.refl _ _) _))) (by simp) _) (by simp) _) (by simp) _) (by simp) _))
    · have k1 : (k != (l.length : Int)) = true := by simpa using hk
      clear h hk
      go_enter Tryz.func16, Tryz.ntmps16
      go_wp2_with (go_at_call 36; refine (HC.out _).mono ?_; rintro e w1 ⟨rfl, hb1⟩; obtain ⟨hc1, hf1⟩ := bcell hb1; have z1 : w.heap.size < w1.heap.size := (by have := hb1.size; simp at this; omega))
      exact bodyPost_ret (v := .tuple #[.agg #[.int .i64 0, .slice none 0 0, .slice none 0 0, .slice none 0 0], .bool false]) (by simp [results, Tryz.results16, go_sem, hc1, z1]) rfl (FIN.out _ (bl_set (bl_set (bl_set (bl_set (bl_trans hb1 (bl_alloc (Below.refl _ _) _)) (by simp) _) (by simp) _) (by simp) _) (by simp) _))
end
end Go.Proofs.T
namespace Go.Proofs.T
open Go.RowKit
theorem set6 {W : World} {p q o1 o2 o3 o4 o5 o6 : Nat} {v1 v2 v3 v4 v5 v6 : Value} (b : Nat) (hp : b ≠ p) (hq : b ≠ q) :
    ((((((W.setCell ⟨p, o1, none⟩ v1).setCell ⟨p, o2, none⟩ v2).setCell ⟨q, o3, none⟩ v3).setCell ⟨q, o4, none⟩ v4).setCell ⟨q, o5, none⟩ v5).setCell ⟨q, o6, none⟩ v6).heap[b]? = W.heap[b]? := by
  rw [heap_setCell_other _ _ _ _ hq, heap_setCell_other _ _ _ _ hq, heap_setCell_other _ _ _ _ hq, heap_setCell_other _ _ _ _ hq, heap_setCell_other _ _ _ _ hp, heap_setCell_other _ _ _ _ hp]
section
variable (s : List Int) (l : List Dec) (A B : Option Addr) (ca cb : Nat) (ok : Nat → Prop) (w : World)
set_option maxHeartbeats 4000000 in
theorem numbersT_dec (hs : Rd Ly.i64 w ok A s.length s) (hl : Rd lDec w ok B l.length l) (hx : DecsOk l) (hsl : s.length ≤ 1000000000) (hll : l.length ≤ 1000000000)
    (h1 : countS s = ((l.length : Int), true)) (h2 : (l.any fun d => !rightD d.man d.exp) = false) (h3 : wholeAll l = none) :
    Calls Tryz.prog 16 #[.slice A s.length ca, .slice B l.length cb] w (NumPost w (fun b => w.heap.size ≤ b) (⟨4, s, [], l⟩, true)) := by
  have hc := fun q => count_any A ca s ok _ (hs.alloc (by decide) q)
  rw [h1] at hc
  have HC := Lib.hid hc; have HS := Lib.hid hs; have HL := Lib.hid hl; have HX := Lib.hid hx; have HA := Lib.hid h2; have HW := Lib.hid h3
  clear hs hl hx hc h1 h2 h3
  have k1 : ((l.length : Int) != (l.length : Int)) = false := by simp
  go_enter Tryz.func16, Tryz.ntmps16
  go_wp2_with (first
    | (go_at_call 36; refine (HC.out _).mono ?_; rintro e w1 ⟨rfl, hb1⟩; obtain ⟨hc1, hf1⟩ := bcell hb1; have z1 : w.heap.size < w1.heap.size := (by have := hb1.size; simp at this; omega))
    | (go_at_call 37; refine (contD_any B cb 35 #[] (fun d => !rightD d.man d.exp) l ok _ eg107 ((HL.out.alloc (by decide) _).below (by decide) hb1) (pays107 l HX.out _)).mono ?_; rw [HA.out]; rintro e w2 ⟨rfl, hb2⟩; obtain ⟨hc2, hf2⟩ := bcell hb2; have z2 : w.heap.size < w2.heap.size := Nat.lt_of_lt_of_le z1 hb2.size)
    | (go_at_call 38; refine (cloneI_rd A ca s ok _ (((HS.out.alloc (by decide) _).below (by decide) hb1).below (by decide) hb2) hsl).mono ?_; rintro e w3 ⟨A9, c9, rfl, h9, hb3⟩; obtain ⟨hc3, hf3⟩ := bcell hb3; have z3 : w.heap.size < w3.heap.size := Nat.lt_of_lt_of_le z2 hb3.size)
    | (go_at_call 39; refine (whole_all B cb l ok _ (((((HL.out.alloc (by decide) _).below (by decide) hb1).below (by decide) hb2).below (by decide) hb3).alloc (by decide) _) HX.out hll).mono ?_; rw [HW.out]; rintro e w4 ⟨v4, rfl, _, hb4⟩; obtain ⟨hc4, hf4⟩ := bcell hb4; have z4 : w3.heap.size < w4.heap.size := (by have := hb4.size; simp at this; omega); have y4 : w.heap.size < w4.heap.size := Nat.lt_trans z3 z4)
    | (go_at_call 41; refine (cloneD_rd B cb l ok _ ((((((HL.out.alloc (by decide) _).below (by decide) hb1).below (by decide) hb2).below (by decide) hb3).alloc (by decide) _).below (by decide) hb4) hll).mono ?_; rintro e w5 ⟨A8, c8, rfl, h8, hb5⟩; obtain ⟨hc5, hf5⟩ := bcell hb5; have z5 : w3.heap.size < w5.heap.size := Nat.lt_of_lt_of_le z4 hb5.size; have y5 : w.heap.size < w5.heap.size := Nat.lt_of_lt_of_le y4 hb5.size))
  have t2 : w.heap.size < w2.heap.size := by omega
  have e1 : (w3.alloc (Obj.cells #[Value.int IntKind.i64 2, Value.slice A9 s.length c9, Value.slice none 0 0, Value.slice none 0 0] 28)).heap.size = w3.heap.size + 1 := by simp
  have hb3' : w2.heap.size ≤ w3.heap.size := hb3.size
  refine bodyPost_ret (v := .tuple #[nodeV ⟨4, s, [], l⟩ A9 none A8 c9 0 c8, .bool true]) (by simp (maxDischargeDepth := 6) [results, Tryz.results16, go_sem, hc1, z1, hc2, z2, hc3, z3, hc4, z4, y4, hc5, z5, y5, nodeV, nodeW, Nat.ne_of_lt z3, Nat.ne_of_gt z3, Nat.le_of_lt z3]) rfl ⟨A9, none, A8, c9, 0, c8, rfl, ⟨h9.1, ?_, Nat.le_refl _, Rd.nil _ _ _ _, h8.1, ?_⟩, ?_⟩
  · refine (h9.2.move (by decide) fun b h1 h2 => ?_).mono (by decide) fun b h1 _ => Nat.le_trans (Nat.le_of_lt t2) h1
    rw [set6 b (by omega) (by omega), hb5.block b (by omega), hb4.block b (by simp; omega)]
    exact (bl_alloc (Below.refl _ _) _).block b h2
  · refine (h8.2.move (by decide) fun b h1 h2 => ?_).mono (by decide) fun b h1 _ => (by omega)
    rw [set6 b (by omega) (by omega)]
  · exact bl_set (bl_set (bl_set (bl_set (bl_set (bl_set (bl_trans hb5 (bl_trans hb4 (bl_alloc (bl_trans hb3 (bl_trans hb2 (bl_trans hb1 (bl_alloc (Below.refl _ _) _)))) _))) (by simp; omega) _) (by simp; omega) _) (by simp) _) (by simp) _) (by simp) _) (by simp) _
end
end Go.Proofs.T
namespace Go.Proofs.T
open Go.RowKit
theorem whole_of (A : Option Addr) (c : Nat) (xs : List Dec) (r : List Int) (ok : Nat → Prop) (w : World) (h : Rd lDec w ok A xs.length xs) (hx : DecsOk xs) (hlen : xs.length ≤ 1000000000) (hr : wholeAll xs = some r) :
    Calls Tryz.prog 39 #[.slice A xs.length c] w fun e w' => ∃ A' c', e = .returned (.tuple #[.slice A' r.length c', .bool true]) ∧ (r.length ≤ c' ∧ Rd Ly.i64 w' (fun b => w.heap.size ≤ b) A' r.length r) ∧ Below w.heap.size w w' := by
  refine (whole_all A c xs ok w h hx hlen).mono ?_
  rw [hr]
  rintro e w' ⟨v, he, ⟨A', c', rfl, h1, h2⟩, hb⟩
  exact ⟨A', c', he, ⟨h1, h2⟩, hb⟩
section
variable (s : List Int) (l : List Dec) (r : List Int) (A B : Option Addr) (ca cb : Nat) (ok : Nat → Prop) (w : World)
set_option maxHeartbeats 4000000 in
theorem numbersT_two (hs : Rd Ly.i64 w ok A s.length s) (hl : Rd lDec w ok B l.length l) (hx : DecsOk l) (hsl : s.length ≤ 1000000000) (hll : l.length ≤ 1000000000)
    (h1 : countS s = ((l.length : Int), true)) (h2 : (l.any fun d => !rightD d.man d.exp) = false) (h3 : wholeAll l = some r) (h4 : (r.any fun n => !(n == 0 || n == 1)) = true) (h5 : 0 < l.length) :
    Calls Tryz.prog 16 #[.slice A s.length ca, .slice B l.length cb] w (NumPost w (fun b => w.heap.size ≤ b) (⟨2, s, r, []⟩, true)) := by
  have hc := fun q => count_any A ca s ok _ (hs.alloc (by decide) q)
  rw [h1] at hc
  have RO := (wholeAll_ok l r hx h3).1
  have HC := Lib.hid hc; have HS := Lib.hid hs; have HL := Lib.hid hl; have HX := Lib.hid hx; have HA := Lib.hid h2; have HW := Lib.hid h3
  have k1 : ((l.length : Int) != (l.length : Int)) = false := by simp
  have k2 : decide (0 < l.length) = true := by simpa using h5
  have HANY := Lib.hid h4; clear h4 h5
  clear hs hl hx hc h1 h2 h3
  go_enter Tryz.func16, Tryz.ntmps16
  go_wp2_with (first
    | (go_at_call 36; refine (HC.out _).mono ?_; rintro e w1 ⟨rfl, hb1⟩; obtain ⟨hc1, hf1⟩ := bcell hb1; have z1 : w.heap.size < w1.heap.size := (by have := hb1.size; simp at this; omega))
    | (go_at_call 37; refine (contD_any B cb 35 #[] (fun d => !rightD d.man d.exp) l ok _ eg107 ((HL.out.alloc (by decide) _).below (by decide) hb1) (pays107 l HX.out _)).mono ?_; rw [HA.out]; rintro e w2 ⟨rfl, hb2⟩; obtain ⟨hc2, hf2⟩ := bcell hb2; have z2 : w.heap.size < w2.heap.size := Nat.lt_of_lt_of_le z1 hb2.size)
    | (go_at_call 38; refine (cloneI_rd A ca s ok _ (((HS.out.alloc (by decide) _).below (by decide) hb1).below (by decide) hb2) hsl).mono ?_; rintro e w3 ⟨A9, c9, rfl, h9, hb3⟩; obtain ⟨hc3, hf3⟩ := bcell hb3; have z3 : w.heap.size < w3.heap.size := Nat.lt_of_lt_of_le z2 hb3.size)
    | (go_at_call 39; refine (whole_of B cb l r ok _ (((((HL.out.alloc (by decide) _).below (by decide) hb1).below (by decide) hb2).below (by decide) hb3).alloc (by decide) _) HX.out hll HW.out).mono ?_; rintro e w4 ⟨A7, c7, rfl, h7, hb4⟩; obtain ⟨hc4, hf4⟩ := bcell hb4; have z4 : w3.heap.size < w4.heap.size := (by have := hb4.size; simp at this; omega); have y4 : w.heap.size < w4.heap.size := Nat.lt_trans z3 z4)
    | (go_at_call 42; refine (contI_any A7 c7 40 #[] (fun n => !(n == 0 || n == 1)) r _ _ eg112 h7.2 (pays112 r RO _)).mono ?_; rw [HANY.out]; rintro e w5 ⟨rfl, hb5⟩; obtain ⟨hc5, hf5⟩ := bcell hb5; have z5 : w3.heap.size < w5.heap.size := Nat.lt_of_lt_of_le z4 hb5.size; have y5 : w.heap.size < w5.heap.size := Nat.lt_of_lt_of_le y4 hb5.size; have x5 : w4.heap.size ≤ w5.heap.size := hb5.size))
  have t2 : w.heap.size < w2.heap.size := by omega
  have hb3' : w2.heap.size ≤ w3.heap.size := hb3.size
  have e1 : (w3.alloc (Obj.cells #[Value.int IntKind.i64 2, Value.slice A9 s.length c9, Value.slice none 0 0, Value.slice none 0 0] 28)).heap.size = w3.heap.size + 1 := by simp
  refine bodyPost_ret (v := .tuple #[nodeV ⟨2, s, r, []⟩ A9 A7 none c9 c7 0, .bool true]) (by simp (maxDischargeDepth := 6) [results, Tryz.results16, go_sem, hc1, z1, hc2, z2, hc3, z3, hc4, z4, y4, hc5, z5, y5, nodeV, nodeW, Nat.ne_of_lt z3, Nat.ne_of_gt z3, Nat.le_of_lt z3]) rfl ⟨A9, A7, none, c9, c7, 0, rfl, ⟨h9.1, ?_, h7.1, ?_, Nat.le_refl _, Rd.nil _ _ _ _⟩, ?_⟩
  · refine (h9.2.move (by decide) fun b h1 h2 => ?_).mono (by decide) fun b h1 _ => Nat.le_trans (Nat.le_of_lt t2) h1
    (repeat (rw [heap_setCell_other]; rotate_left; · (simp; omega)))
    rw [hb5.block b (by omega), hb4.block b (by simp; omega)]
    exact (bl_alloc (Below.refl _ _) _).block b h2
  · refine (h7.2.move (by decide) fun b h1 h2 => ?_).mono (by decide) fun b h1 _ => (by omega)
    rw [e1] at h1
    (repeat (rw [heap_setCell_other]; rotate_left; · (simp; omega)))
    exact hb5.block b (by omega)
  · exact (bl_set (bl_set (bl_set (bl_set (bl_set (bl_trans hb5 (bl_trans hb4 (bl_alloc (bl_trans hb3 (bl_trans hb2 (bl_trans hb1 (bl_alloc (Below.refl _ _) _)))) _))) (by simp <;> omega) _) (by simp <;> omega) _) (by simp <;> omega) _) (by simp <;> omega) _) (by simp <;> omega) _)
set_option maxHeartbeats 4000000 in
theorem numbersT_one (hs : Rd Ly.i64 w ok A s.length s) (hl : Rd lDec w ok B l.length l) (hx : DecsOk l) (hsl : s.length ≤ 1000000000) (hll : l.length ≤ 1000000000)
    (h1 : countS s = ((l.length : Int), true)) (h2 : (l.any fun d => !rightD d.man d.exp) = false) (h3 : wholeAll l = some r) (h4 : (r.any fun n => !(n == 0 || n == 1)) = false) (h5 : 0 < l.length) :
    Calls Tryz.prog 16 #[.slice A s.length ca, .slice B l.length cb] w (NumPost w (fun b => w.heap.size ≤ b) (⟨1, s, r, []⟩, true)) := by
  have hc := fun q => count_any A ca s ok _ (hs.alloc (by decide) q)
  rw [h1] at hc
  have RO := (wholeAll_ok l r hx h3).1
  have HC := Lib.hid hc; have HS := Lib.hid hs; have HL := Lib.hid hl; have HX := Lib.hid hx; have HA := Lib.hid h2; have HW := Lib.hid h3
  have k1 : ((l.length : Int) != (l.length : Int)) = false := by simp
  have k2 : decide (0 < l.length) = true := by simpa using h5
  have HANY := Lib.hid h4; clear h4 h5
  clear hs hl hx hc h1 h2 h3
  go_enter Tryz.func16, Tryz.ntmps16
  go_wp2_with (first
    | (go_at_call 36; refine (HC.out _).mono ?_; rintro e w1 ⟨rfl, hb1⟩; obtain ⟨hc1, hf1⟩ := bcell hb1; have z1 : w.heap.size < w1.heap.size := (by have := hb1.size; simp at this; omega))
    | (go_at_call 37; refine (contD_any B cb 35 #[] (fun d => !rightD d.man d.exp) l ok _ eg107 ((HL.out.alloc (by decide) _).below (by decide) hb1) (pays107 l HX.out _)).mono ?_; rw [HA.out]; rintro e w2 ⟨rfl, hb2⟩; obtain ⟨hc2, hf2⟩ := bcell hb2; have z2 : w.heap.size < w2.heap.size := Nat.lt_of_lt_of_le z1 hb2.size)
    | (go_at_call 38; refine (cloneI_rd A ca s ok _ (((HS.out.alloc (by decide) _).below (by decide) hb1).below (by decide) hb2) hsl).mono ?_; rintro e w3 ⟨A9, c9, rfl, h9, hb3⟩; obtain ⟨hc3, hf3⟩ := bcell hb3; have z3 : w.heap.size < w3.heap.size := Nat.lt_of_lt_of_le z2 hb3.size)
    | (go_at_call 39; refine (whole_of B cb l r ok _ (((((HL.out.alloc (by decide) _).below (by decide) hb1).below (by decide) hb2).below (by decide) hb3).alloc (by decide) _) HX.out hll HW.out).mono ?_; rintro e w4 ⟨A7, c7, rfl, h7, hb4⟩; obtain ⟨hc4, hf4⟩ := bcell hb4; have z4 : w3.heap.size < w4.heap.size := (by have := hb4.size; simp at this; omega); have y4 : w.heap.size < w4.heap.size := Nat.lt_trans z3 z4)
    | (go_at_call 42; refine (contI_any A7 c7 40 #[] (fun n => !(n == 0 || n == 1)) r _ _ eg112 h7.2 (pays112 r RO _)).mono ?_; rw [HANY.out]; rintro e w5 ⟨rfl, hb5⟩; obtain ⟨hc5, hf5⟩ := bcell hb5; have z5 : w3.heap.size < w5.heap.size := Nat.lt_of_lt_of_le z4 hb5.size; have y5 : w.heap.size < w5.heap.size := Nat.lt_of_lt_of_le y4 hb5.size; have x5 : w4.heap.size ≤ w5.heap.size := hb5.size))
  have t2 : w.heap.size < w2.heap.size := by omega
  have hb3' : w2.heap.size ≤ w3.heap.size := hb3.size
  have e1 : (w3.alloc (Obj.cells #[Value.int IntKind.i64 2, Value.slice A9 s.length c9, Value.slice none 0 0, Value.slice none 0 0] 28)).heap.size = w3.heap.size + 1 := by simp
  refine bodyPost_ret (v := .tuple #[nodeV ⟨1, s, r, []⟩ A9 A7 none c9 c7 0, .bool true]) (by simp (maxDischargeDepth := 6) [results, Tryz.results16, go_sem, hc1, z1, hc2, z2, hc3, z3, hc4, z4, y4, hc5, z5, y5, nodeV, nodeW, Nat.ne_of_lt z3, Nat.ne_of_gt z3, Nat.le_of_lt z3]) rfl ⟨A9, A7, none, c9, c7, 0, rfl, ⟨h9.1, ?_, h7.1, ?_, Nat.le_refl _, Rd.nil _ _ _ _⟩, ?_⟩
  · refine (h9.2.move (by decide) fun b h1 h2 => ?_).mono (by decide) fun b h1 _ => Nat.le_trans (Nat.le_of_lt t2) h1
    (repeat (rw [heap_setCell_other]; rotate_left; · (simp; omega)))
    rw [hb5.block b (by omega), hb4.block b (by simp; omega)]
    exact (bl_alloc (Below.refl _ _) _).block b h2
  · refine (h7.2.move (by decide) fun b h1 h2 => ?_).mono (by decide) fun b h1 _ => (by omega)
    rw [e1] at h1
    (repeat (rw [heap_setCell_other]; rotate_left; · (simp; omega)))
    exact hb5.block b (by omega)
  · exact (bl_set (bl_set (bl_set (bl_set (bl_set (bl_set (bl_trans hb5 (bl_trans hb4 (bl_alloc (bl_trans hb3 (bl_trans hb2 (bl_trans hb1 (bl_alloc (Below.refl _ _) _)))) _))) (by simp <;> omega) _) (by simp <;> omega) _) (by simp <;> omega) _) (by simp <;> omega) _) (by simp <;> omega) _) (by simp <;> omega) _)
set_option maxHeartbeats 4000000 in
theorem numbersT_none (hs : Rd Ly.i64 w ok A s.length s) (hl : Rd lDec w ok B l.length l) (hx : DecsOk l) (hsl : s.length ≤ 1000000000) (hll : l.length ≤ 1000000000)
    (h1 : countS s = ((l.length : Int), true)) (h2 : (l.any fun d => !rightD d.man d.exp) = false) (h3 : wholeAll l = some r) (h5 : l.length = 0) :
    Calls Tryz.prog 16 #[.slice A s.length ca, .slice B l.length cb] w (NumPost w (fun b => w.heap.size ≤ b) (⟨2, s, r, []⟩, true)) := by
  have hc := fun q => count_any A ca s ok _ (hs.alloc (by decide) q)
  rw [h1] at hc
  have RO := (wholeAll_ok l r hx h3).1
  have HC := Lib.hid hc; have HS := Lib.hid hs; have HL := Lib.hid hl; have HX := Lib.hid hx; have HA := Lib.hid h2; have HW := Lib.hid h3
  have k1 : ((l.length : Int) != (l.length : Int)) = false := by simp
  have k2 : decide (0 < l.length) = false := by simpa using h5
  clear h5
  clear hs hl hx hc h1 h2 h3
  go_enter Tryz.func16, Tryz.ntmps16
  go_wp2_with (first
    | (go_at_call 36; refine (HC.out _).mono ?_; rintro e w1 ⟨rfl, hb1⟩; obtain ⟨hc1, hf1⟩ := bcell hb1; have z1 : w.heap.size < w1.heap.size := (by have := hb1.size; simp at this; omega))
    | (go_at_call 37; refine (contD_any B cb 35 #[] (fun d => !rightD d.man d.exp) l ok _ eg107 ((HL.out.alloc (by decide) _).below (by decide) hb1) (pays107 l HX.out _)).mono ?_; rw [HA.out]; rintro e w2 ⟨rfl, hb2⟩; obtain ⟨hc2, hf2⟩ := bcell hb2; have z2 : w.heap.size < w2.heap.size := Nat.lt_of_lt_of_le z1 hb2.size)
    | (go_at_call 38; refine (cloneI_rd A ca s ok _ (((HS.out.alloc (by decide) _).below (by decide) hb1).below (by decide) hb2) hsl).mono ?_; rintro e w3 ⟨A9, c9, rfl, h9, hb3⟩; obtain ⟨hc3, hf3⟩ := bcell hb3; have z3 : w.heap.size < w3.heap.size := Nat.lt_of_lt_of_le z2 hb3.size)
    | (go_at_call 39; refine (whole_of B cb l r ok _ (((((HL.out.alloc (by decide) _).below (by decide) hb1).below (by decide) hb2).below (by decide) hb3).alloc (by decide) _) HX.out hll HW.out).mono ?_; rintro e w4 ⟨A7, c7, rfl, h7, hb4⟩; obtain ⟨hc4, hf4⟩ := bcell hb4; have z4 : w3.heap.size < w4.heap.size := (by have := hb4.size; simp at this; omega); have y4 : w.heap.size < w4.heap.size := Nat.lt_trans z3 z4))
  have t2 : w.heap.size < w2.heap.size := by omega
  have hb3' : w2.heap.size ≤ w3.heap.size := hb3.size
  have e1 : (w3.alloc (Obj.cells #[Value.int IntKind.i64 2, Value.slice A9 s.length c9, Value.slice none 0 0, Value.slice none 0 0] 28)).heap.size = w3.heap.size + 1 := by simp
  refine bodyPost_ret (v := .tuple #[nodeV ⟨2, s, r, []⟩ A9 A7 none c9 c7 0, .bool true]) (by simp (maxDischargeDepth := 6) [results, Tryz.results16, go_sem, hc1, z1, hc2, z2, hc3, z3, hc4, z4, y4, nodeV, nodeW, Nat.ne_of_lt z3, Nat.ne_of_gt z3, Nat.le_of_lt z3]) rfl ⟨A9, A7, none, c9, c7, 0, rfl, ⟨h9.1, ?_, h7.1, ?_, Nat.le_refl _, Rd.nil _ _ _ _⟩, ?_⟩
  · refine (h9.2.move (by decide) fun b h1 h2 => ?_).mono (by decide) fun b h1 _ => Nat.le_trans (Nat.le_of_lt t2) h1
    (repeat (rw [heap_setCell_other]; rotate_left; · (simp; omega)))
    rw [hb4.block b (by simp; omega)]
    exact (bl_alloc (Below.refl _ _) _).block b h2
  · refine (h7.2.move (by decide) fun b h1 h2 => ?_).mono (by decide) fun b h1 _ => (by omega)
    rw [e1] at h1
    (repeat (rw [heap_setCell_other]; rotate_left; · (simp; omega)))
    
  · exact (bl_set (bl_set (bl_set (bl_set (bl_set (bl_trans hb4 (bl_alloc (bl_trans hb3 (bl_trans hb2 (bl_trans hb1 (bl_alloc (Below.refl _ _) _)))) _)) (by simp <;> omega) _) (by simp <;> omega) _) (by simp <;> omega) _) (by simp <;> omega) _) (by simp <;> omega) _)
end
end Go.Proofs.T
namespace Go.Proofs.T
open Go.RowKit
theorem numbersT_any (s : List Int) (l : List Dec) (A B : Option Addr) (ca cb : Nat) (ok : Nat → Prop) (w : World) (hs : Rd Ly.i64 w ok A s.length s) (hl : Rd lDec w ok B l.length l) (hx : DecsOk l) (hsl : s.length ≤ 1000000000) (hll : l.length ≤ 1000000000) :
    Calls Tryz.prog 16 #[.slice A s.length ca, .slice B l.length cb] w (NumPost w (fun b => w.heap.size ≤ b) (numbersT s l)) := by
  unfold numbersT
  split
  · next h => exact numbersT_no s l A B ca cb ok w hs hl hx (.inl h)
  · next h =>
    split
    · next h1 => exact numbersT_no s l A B ca cb ok w hs hl hx (.inr (.inl h1))
    · next h1 =>
      split
      · next h2 => exact numbersT_no s l A B ca cb ok w hs hl hx (.inr (.inr h2))
      · next h2 =>
        have e1 : countS s = ((l.length : Int), true) := by
          have h := eq_true_of_ne_false h
          have h1 := Decidable.not_not.1 h1
          rw [← h1, ← h]
        have e2 := eq_false_of_ne_true h2
        split
        · next h3 => exact numbersT_dec s l A B ca cb ok w hs hl hx hsl hll e1 e2 h3
        · next r h3 =>
          by_cases h5 : 0 < l.length
          · by_cases h4 : (r.any fun n => !(n == 0 || n == 1)) = true
            · rw [if_neg (fun h => by rw [h.2] at h4; cases h4)]
              exact numbersT_two s l r A B ca cb ok w hs hl hx hsl hll e1 e2 h3 h4 h5
            · have h4 := eq_false_of_ne_true h4
              rw [if_pos ⟨h5, h4⟩]
              exact numbersT_one s l r A B ca cb ok w hs hl hx hsl hll e1 e2 h3 h4 h5
          · rw [if_neg (by simp [h5])]
            exact numbersT_none s l r A B ca cb ok w hs hl hx hsl hll e1 e2 h3 (by omega)
end Go.Proofs.T
namespace Go.Proofs.T
open Go.RowKit
section
variable {P : Program} {ops : Array Oper} {rest : List Oper} {o : Oper} {a : Act} {Q : Exit → Act → World → Prop}
/-- append(v, nil...): nothing. -/
theorem app_nil {W : World} (base : Nat) (hgd : o.guard = none) (s x : Operand) (t e : TypeId) (z : Value) (size bytes : Nat)
    (ho : o.op = .call { callee := .builtin .append, args := #[s, x], argTypes := #[t, t] })
    (ht : P.underlying t = some (.slice e)) (hinfo : (P.info? e).map (fun i => (i.zero, i.size, i.bytes)) = some (some z, size, bytes))
    (v : Value) (n c : Nat) (xs : List Value) (hs : a.eval s = v) (hx : a.eval x = .slice none 0 c) (HO : W.ownsRow base e size v n xs)
    (h : wpList P ops Q rest (a.put o.dst v) W) : wpList P ops Q (o :: rest) a W := by
  obtain ⟨i0, hi, hzz⟩ := Option.map_eq_some_iff.1 hinfo
  refine wpList_plain hgd fun K hK => ?_
  have hr : (Builtin.append_ #[t, t] o.type #[v, .slice none 0 c]).run P W = .ok v W := by
    rcases HO.2 with ⟨rfl, h0⟩ | ⟨g, cap, cur, rfl, _, _, hnc, _⟩
    · simp [Builtin.append_, run_underlying ht, sizeOf, typeInfo, hi, Builtin.lenOf, Builtin.firstCells]
    · simp [Builtin.append_, run_underlying ht, sizeOf, typeInfo, hi, Builtin.lenOf, Builtin.firstCells, hnc, storeCells]
  unfold Oper.wp execOp
  simp only [ho, resolve, invoke, builtin, Sem.run_bind, Sem.run_pure, Result.andThen_ok, List.map_toArray, List.map_cons, List.map_nil, hs, hx, hr]
  exact hK _ _ h
/-- append(v, ys...): the elements of a row that is read. -/
theorem app_row {α : Type} {L : Ly α} {w0 W : World} (base : Nat) (hgd : o.guard = none) (s x : Operand) (t e : TypeId) (z : Value) (bytes : Nat)
    (ho : o.op = .call { callee := .builtin .append, args := #[s, x], argTypes := #[t, t] })
    (ht : P.underlying t = some (.slice e)) (hinfo : (P.info? e).map (fun i => (i.zero, i.size, i.bytes)) = some (some z, L.sz, bytes)) (hz : z.cells.size = L.sz) (hs0 : 0 < L.sz)
    (v : Value) (n : Nat) (xs : List Value) (hs : a.eval s = v) (ok : Nat → Prop) (A : Option Addr) (m c : Nat) (ys : List α) (hx : a.eval x = .slice A m c) (hr : Rd L W ok A m ys)
    (HO : W.ownsRow base e L.sz v n xs) (HB : Below base w0 W) (hbase : base ≤ W.heap.size) (hn : n + m ≤ maxLen) (hl : (n + m) * bytes ≤ 140737488355328)
    (h : ∀ v1 w1 cs, Parts L W ok ys cs → w1.ownsRow base e L.sz v1 (n + m) (xs ++ cs) → Below base w0 w1 → W.grownBy w1 v.ownBlock → (v1.ownBlock = v.ownBlock ∨ ∃ b, v1.ownBlock = some b ∧ W.heap.size ≤ b) → wpList P ops Q rest (a.put o.dst v1) w1) :
    wpList P ops Q (o :: rest) a W := by
  have some_case : ∀ b q, A = some ⟨b, q, none⟩ → wpList P ops Q (o :: rest) a W := by
    intro b q hA
    subst hA
    obtain ⟨cs, hp, hc⟩ := hr.flat
    obtain ⟨i0, hi, hzz⟩ := Option.map_eq_some_iff.1 hinfo
    simp only [Prod.mk.injEq] at hzz
    obtain ⟨hz0, hz1, hz2⟩ := hzz
    refine wpList_append_own_at W hgd s x t ho base e i0 z L.sz bytes ht hi hz0 hz1 hz2 hz hs0 v n xs hs HO ⟨b, q, none⟩ m c cs hx (by rw [hp.len, hr.len]) (fun j u hu => by rw [addr_add]; exact hc j u hu) hp.one hn hl hbase ?_
    intro v1 w1 hown hg _ hat
    refine h v1 w1 cs hp hown (HB.grown hg hbase (own_base HO)) hg ?_
    rcases hat with hat | hat
    · exact .inl hat
    · exact .inr ⟨_, hat, Nat.le_refl _⟩
  rcases hr.ways with ⟨h0, rfl⟩ | ⟨_, b, q, hA⟩
  · subst h0
    rcases A with _ | ad
    · exact app_nil base hgd s x t e z L.sz bytes ho ht hinfo v n c xs hs hx HO (h v W [] rfl (by simpa using HO) HB (World.grownBy.refl W _) (.inl rfl))
    · obtain ⟨i0, hi, hzz⟩ := Option.map_eq_some_iff.1 hinfo
      simp only [Prod.mk.injEq] at hzz
      obtain ⟨hz0, hz1, hz2⟩ := hzz
      refine wpList_append_own_at W hgd s x t ho base e i0 z L.sz bytes ht hi hz0 hz1 hz2 hz hs0 v n xs hs HO ad 0 c [] hx (by simp) (fun j u hu => by simp at hu) (fun u hu => by cases hu) hn hl hbase ?_
      intro v1 w1 hown hg _ hat
      refine h v1 w1 [] rfl hown (HB.grown hg hbase (own_base HO)) hg ?_
      rcases hat with hat | hat
      · exact .inl hat
      · exact .inr ⟨_, hat, Nat.le_refl _⟩
  · exact some_case b q hA
end
end Go.Proofs.T
namespace Go.Proofs.T
open Go.RowKit
/-- A block that is known whole. -/
def Box (w : World) (B : Nat) (cs : Array Value) (t : TypeId) : Prop := w.heap[B]? = some (.cells cs t (0, 0))
section
variable {w W : World} {B : Nat} {cs : Array Value} {t : TypeId}
theorem Box.lt (h : Box w B cs t) : B < w.heap.size := by
  unfold Box at h
  exact (Array.getElem?_eq_some_iff.1 h).1
theorem Box.cell (h : Box w B cs t) (j : Nat) : w.cell? ⟨B, j, none⟩ = cs[j]? := cell_of_row w B j cs t (0, 0) h
theorem Box.frozen (h : Box w B cs t) (j : Nat) : w.frozen? ⟨B, j, none⟩ = false := frozen_of_row w B j cs t h
theorem Box.move (h : Box w B cs t) (hm : W.heap[B]? = w.heap[B]?) : Box W B cs t := hm.trans h
theorem Box.below (h : Box w B cs t) (hb : Below w.heap.size w W) : Box W B cs t := (hb.block B h.lt).trans h
theorem Box.set (h : Box w B cs t) (i : Nat) (v : Value) : Box (w.setCell ⟨B, i, none⟩ v) B (cs.setIfInBounds i v) t := heap_setCell_same w B i cs t v h
theorem Box.other (h : Box w B cs t) (p : Addr) (v : Value) (hp : B ≠ p.block) : Box (w.setCell p v) B cs t := (heap_setCell_other w p B v hp).trans h
theorem Box.grown {row : Option Nat} (h : Box w B cs t) (hg : w.grownBy W row) (hr : row ≠ some B) : Box W B cs t := (hg.block B h.lt (fun e => hr e.symm)).trans h
theorem Box.new (w : World) (cs : Array Value) (t : TypeId) : Box (w.alloc (.cells cs t)) w.heap.size cs t := heap_alloc_new w _
theorem Box.alloc (h : Box w B cs t) (o : Obj) : Box (w.alloc o) B cs t := h.below (bl_alloc (Below.refl _ _) o)
theorem Box.cells {a b c d : Value} (h : Box w B #[a, b, c, d] t) : (w.cell? ⟨B, 0, none⟩ = some a ∧ w.cell? ⟨B, 1, none⟩ = some b ∧ w.cell? ⟨B, 2, none⟩ = some c ∧ w.cell? ⟨B, 3, none⟩ = some d) ∧
    w.frozen? ⟨B, 0, none⟩ = false ∧ w.frozen? ⟨B, 1, none⟩ = false ∧ w.frozen? ⟨B, 2, none⟩ = false ∧ w.frozen? ⟨B, 3, none⟩ = false :=
  ⟨⟨h.cell 0, h.cell 1, h.cell 2, h.cell 3⟩, h.frozen 0, h.frozen 1, h.frozen 2, h.frozen 3⟩
theorem own_move {base n size : Nat} {e : TypeId} {v : Value} {xs : List Value} (h : w.ownsRow base e size v n xs) (hm : ∀ b, v.ownBlock = some b → W.heap[b]? = w.heap[b]?) : W.ownsRow base e size v n xs := by
  refine ⟨h.1, ?_⟩
  rcases h.2 with ⟨rfl, h0⟩ | ⟨g, cap, cur, rfl, h1, h2, h3⟩
  · exact .inl ⟨rfl, h0⟩
  · exact .inr ⟨g, cap, cur, rfl, h1, (hm g (by simp [Value.ownBlock])).trans h2, h3⟩
theorem own_lt {base n size : Nat} {e : TypeId} {v : Value} {xs : List Value} (h : w.ownsRow base e size v n xs) {b : Nat} (hb : v.ownBlock = some b) : b < w.heap.size := by
  rcases h.2 with ⟨rfl, h0⟩ | ⟨g, cap, cur, rfl, h1, h2, h3⟩
  · simp [Value.ownBlock] at hb
  · have : g = b := by simpa [Value.ownBlock] using hb
    subst this
    exact (Array.getElem?_eq_some_iff.1 h2).1
end
/-- The node that stands for kids that are all signs or all numbers. -/
def joinL : List (List Node) → List Int → List Dec → Option (List Int × List Dec)
  | [], is, ds => some (is, ds)
  | [] :: _, _, _ => none
  | (n :: _) :: ks, is, ds => if 0 < n.shape.length ∨ n.kind = 5 then none else if n.kind = 3 then joinL ks (is ++ n.ints) ds else joinL ks is (ds ++ numsN n)
def joinedN (s : List Int) (kids : List (List Node)) : Node × Bool :=
  match joinL kids [] [] with
  | none => (zeroN, false)
  | some (is, ds) => if is.length = kids.length ∧ 0 < kids.length then (⟨3, s, is, []⟩, true) else numbersT s ds
/-- A kid that joined may look at. -/
def JoinOk (k : List Node) : Prop := ∃ n r, k = n :: r ∧ NodeOk n ∧ n.ints.length ≤ 1000000000 ∧ (n.shape.length = 0 → n.kind ≠ 5 → n.ints.length ≤ 1 ∧ (numsN n).length ≤ 1)
theorem numsN_ok (n : Node) (h : NodeOk n) : DecsOk (numsN n) := by
  unfold numsN
  split
  · exact h.decs
  · intro d hd
    obtain ⟨x, hx, rfl⟩ := List.mem_map.1 hd
    exact ofN_ok x (h.ints x hx)
/-- A node's numbers, as a row that is read. -/
theorem numsT_any (n : Node) (A1 A2 A3 : Option Addr) (c1 c2 c3 : Nat) (ok : Nat → Prop) (w : World) (h : NodeAt w ok n A1 A2 A3 c1 c2 c3) (hn : NodeOk n) (hlen : n.ints.length ≤ 1000000000) :
    Calls Tryz.prog 69 #[nodeV n A1 A2 A3 c1 c2 c3] w fun e w' => ∃ A c, e = .returned (.slice A (numsN n).length c) ∧ (numsN n).length ≤ c ∧ Rd lDec w' (fun b => ok b ∨ w.heap.size ≤ b) A (numsN n).length (numsN n) ∧ Below w.heap.size w w' := by
  unfold numsN nodeV
  by_cases hk : n.kind = 4
  · rw [if_pos hk, hk]
    refine (numbers_dec n.shape n.ints n.decs A1 A2 A3 c1 c2 c3 w).mono ?_
    rintro e w' ⟨rfl, hb⟩
    exact ⟨_, _, rfl, h.l3, (h.r3.below (by decide) hb).mono (by decide) fun b hb _ => .inl hb, hb⟩
  · rw [if_neg hk]
    refine (numbers_int n.kind n.shape n.ints n.decs A1 A2 A3 c1 c2 c3 ok w h.r2 hn.ints hk hlen).mono ?_
    rintro e w' ⟨v, rfl, ⟨A, c, rfl, h1, h2⟩, hb⟩
    exact ⟨_, _, rfl, h1, h2.mono (by decide) fun b hb _ => .inr hb, hb⟩
end Go.Proofs.T
namespace Go.Proofs.T
open Go.RowKit
/-- What stands between the rounds of joined. -/
structure JS (w wr : World) (b6 : Nat) (v vi : Value) (is : List Int) (ds : List Dec) (A9 : Option Addr) (c9 : Nat) (s : List Int) : Prop where
  od : wr.ownsRow (b6 + 1) 39 2 v ds.length (decCells ds)
  oi : wr.ownsRow (b6 + 1) 3 1 vi is.length (is.map (Value.int .i64))
  ap : ∀ b, v.ownBlock = some b → vi.ownBlock ≠ some b
  hb : Below w.heap.size w wr
  h6 : w.heap.size < b6
  bx4 : Box wr w.heap.size #[.int .i64 0, .slice none 0 0, .slice none 0 0, .slice none 0 0] 28
  bx6 : Box wr b6 #[.int .i64 3, .slice A9 s.length c9, vi, .slice none 0 0] 28
  l9 : s.length ≤ c9
  r9 : Rd Ly.i64 wr (fun b => w.heap.size < b ∧ b < b6) A9 s.length s
  dk : DecsOk ds
section
variable {w wr W w2 : World} {b6 : Nat} {v vi v1 : Value} {is xs : List Int} {ds ys : List Dec} {A9 : Option Addr} {c9 : Nat} {s : List Int}
theorem JS.below (h : JS w wr b6 v vi is ds A9 c9 s) (hb : Below wr.heap.size wr W) : JS w W b6 v vi is ds A9 c9 s :=
  ⟨own_below h.od hb, own_below h.oi hb, h.ap, bl_trans hb h.hb, h.h6, h.bx4.below hb, h.bx6.below hb, h.l9, h.r9.below (by decide) hb, h.dk⟩
theorem JS.ints (h : JS w W b6 v vi is ds A9 c9 s) (hg : W.grownBy w2 vi.ownBlock) (ho : w2.ownsRow (b6 + 1) 3 1 v1 (is ++ xs).length ((is ++ xs).map (Value.int .i64)))
    (hat : v1.ownBlock = vi.ownBlock ∨ ∃ b, v1.ownBlock = some b ∧ W.heap.size ≤ b) : JS w (w2.setCell ⟨b6, 2, none⟩ v1) b6 v v1 (is ++ xs) ds A9 c9 s := by
  have l6 := h.bx6.lt
  have hv : ∀ b, b ≤ b6 → vi.ownBlock ≠ some b := fun b hb e => by have := own_base h.oi b e; omega
  have h6 := h.h6
  refine ⟨own_move h.od fun b hb => ?_, own_move ho fun b hb => ?_, fun b hb => ?_, bl_set (bl_grown h.hb hg fun k hk => ?_) (by simp only; omega) _, h6, ((h.bx4.grown hg (hv _ (by omega))).other _ _ (by simp only; omega)), (h.bx6.grown hg (hv _ (by omega))).set 2 v1, h.l9, h.r9.move (by decide) fun b hb hlt => ?_, h.dk⟩
  · have h1 := own_base h.od b hb
    rw [heap_setCell_other _ _ _ _ (by simp only; omega)]
    exact hg.block b (own_lt h.od hb) (fun e => h.ap b hb e.symm)
  · have h1 := own_base ho b hb
    exact heap_setCell_other _ _ _ _ (by simp only; omega)
  · rcases hat with hat | ⟨b', hat, hle⟩
    · rw [hat]; exact h.ap b hb
    · rw [hat]; intro e; injection e with e; have := own_lt h.od hb; omega
  · have := own_base h.oi k hk; omega
  · rw [heap_setCell_other _ _ _ _ (by simp only; omega)]
    exact hg.block b hlt (fun e => hv b (by omega) e.symm)
theorem JS.decs (h : JS w W b6 v vi is ds A9 c9 s) (hg : W.grownBy w2 v.ownBlock) (ho : w2.ownsRow (b6 + 1) 39 2 v1 (ds ++ ys).length (decCells (ds ++ ys)))
    (hat : v1.ownBlock = v.ownBlock ∨ ∃ b, v1.ownBlock = some b ∧ W.heap.size ≤ b) (hy : DecsOk ys) : JS w w2 b6 v1 vi is (ds ++ ys) A9 c9 s := by
  have l6 := h.bx6.lt
  have hv : ∀ b, b ≤ b6 → v.ownBlock ≠ some b := fun b hb e => by have := own_base h.od b e; omega
  have h6 := h.h6
  refine ⟨ho, own_move h.oi fun b hb => ?_, fun b hb => ?_, bl_grown h.hb hg fun k hk => ?_, h6, h.bx4.grown hg (hv _ (by omega)), h.bx6.grown hg (hv _ (by omega)), h.l9, h.r9.move (by decide) fun b hb hlt => ?_, fun d hd => ?_⟩
  · exact hg.block b (own_lt h.oi hb) (fun e => h.ap b e.symm hb)
  · rcases hat with hat | ⟨b', hat, hle⟩
    · exact h.ap b (hat ▸ hb)
    · rw [hat] at hb; injection hb with e; subst e; intro e; have := own_lt h.oi e; omega
  · have := own_base h.od k hk; omega
  · exact hg.block b hlt (fun e => hv b (by omega) e.symm)
  · exact (List.mem_append.1 hd).elim (h.dk d) (hy d)
end
theorem int_of_parts {w : World} {ok : Nat → Prop} : ∀ {xs : List Int} {cs : List Value}, Parts Ly.i64 w ok xs cs → cs = xs.map (Value.int .i64)
  | [], _, h => h
  | _ :: _, _, ⟨_, _, h, rfl, h2⟩ => by rw [h, int_of_parts h2]; rfl
end Go.Proofs.T
