/- NotationRows and NotationAlone hold for every input: numbers' and quotes' texts are read as what they were made of; under the rows' own conditions (the listed package variables as the program lays them). -/
import Derived.Test.YtafkenbfgmlkkaaGreatDoorTF
import Derived.Lib.MapLaws
import Derived.Lib.ValidLaws
import Derived.Lib.RuneBytes
set_option linter.unusedVariables false
set_option linter.unusedSimpArgs false
namespace Go.Proofs.T
open Go.RowKit
/-! ### Numbers' texts are read as the numbers -/
theorem pu_snoc (c : UInt8) : ∀ (l : List UInt8) (acc v : Nat), Lib.parseUint10 acc l = .ok v → Lib.parseUint10 acc (l ++ [c]) = Lib.parseUint10 v [c]
  | [], acc, v, h => by
    simp only [Lib.parseUint10] at h
    injection h with h
    subst h; rfl
  | d :: l, acc, v, h => by
    rw [List.cons_append]
    unfold Lib.parseUint10 at h ⊢
    split at h
    · next h1 =>
      rw [if_pos h1]
      split at h
      · cases h
      · next h2 =>
        rw [if_neg h2]
        split at h
        · cases h
        · next h3 =>
          rw [if_neg h3]
          exact pu_snoc c l _ v h
    · cases h
theorem pu_digits : ∀ (k u : Nat), u ≤ k → u < 18446744073709551616 → Lib.parseUint10 0 (Lib.decDigits u) = .ok u
  | k, u, hk, hu => by
    have tn : ∀ q, q < 10 → (UInt8.ofNat (48 + q)).toNat = 48 + q := fun q hq => by rw [UInt8.toNat_ofNat']; omega
    unfold Lib.decDigits
    split
    · next h =>
      simp only [Lib.parseUint10]
      rw [tn u h, if_pos (by omega), if_neg (by omega), if_neg (by omega)]
      congr 1; omega
    · next h =>
      cases k with
      | zero => omega
      | succ k =>
        rw [pu_snoc _ _ 0 (u / 10) (pu_digits k (u / 10) (by omega) (by omega))]
        simp only [Lib.parseUint10]
        rw [tn (u % 10) (by omega), if_pos (by omega), if_neg (by omega), if_neg (by omega)]
        congr 1; omega
theorem mag_digits (u : Nat) (hu : u < 18446744073709551616) : Lib.parseMag (Lib.decDigits u) = .ok u := by
  unfold Lib.parseMag
  rw [if_neg (dd_ne u)]
  exact pu_digits u u (Nat.le_refl _) hu
theorem dd_head {u : Nat} {c : UInt8} {r : List UInt8} (h : Lib.decDigits u = c :: r) : 48 ≤ c.toNat ∧ c.toNat ≤ 57 := dd_mem u u (Nat.le_refl _) c (by rw [h]; simp)
theorem atoi_itoa (n : Int) (hn : I64 n) : Lib.atoiAll (Lib.itoa n) = .ok n := by
  unfold I64 at hn
  unfold Lib.itoa
  split
  · next h =>
    rw [Lib.atoiAll_minus, mag_digits _ (by omega)]
    simp only [Lib.signed]
    rw [if_neg (by omega)]
    congr 1; omega
  · next h =>
    cases hd : Lib.decDigits n.toNat with
    | nil => exact absurd hd (dd_ne _)
    | cons c r =>
      have hc := dd_head hd
      rw [Lib.atoiAll_plain c r (by omega) (by omega), ← hd, mag_digits _ (by omega)]
      simp only [Lib.signless]
      rw [if_neg (by omega)]
      congr 1; omega
theorem idx_none2 {x y : UInt8} : ∀ (l : List UInt8), (∀ b ∈ l, b ≠ x) → Lib.index l [x, y] = -1
  | [], _ => rfl
  | b :: l, h => by
    have ih := idx_none2 (x := x) (y := y) l fun c hc => h c (List.mem_cons_of_mem _ hc)
    have hb := h b (by simp)
    unfold Lib.index
    rw [if_neg (by simp [List.isPrefixOf]; intro h1; exact absurd h1.symm hb), ih]
    rfl
theorem idx_none1 {x : UInt8} : ∀ (l : List UInt8), (∀ b ∈ l, b ≠ x) → Lib.index l [x] = -1
  | [], _ => rfl
  | b :: l, h => by
    have ih := idx_none1 (x := x) l fun c hc => h c (List.mem_cons_of_mem _ hc)
    have hb := h b (by simp)
    unfold Lib.index
    rw [if_neg (by simp [List.isPrefixOf]; intro h1; exact absurd h1.symm hb), ih]
    rfl
theorem idx_at1 {x : UInt8} : ∀ (l r : List UInt8), (∀ b ∈ l, b ≠ x) → Lib.index (l ++ x :: r) [x] = l.length
  | [], r, _ => by unfold Lib.index; simp [List.isPrefixOf]
  | b :: l, r, h => by
    have ih := idx_at1 (x := x) l r fun c hc => h c (List.mem_cons_of_mem _ hc)
    have hb := h b (by simp)
    rw [List.cons_append]
    unfold Lib.index
    rw [if_neg (by simp [List.isPrefixOf]; intro h1; exact absurd h1.symm hb), ih, if_neg (by simp)]
    simp
theorem numReadS_numT (n : Int) : numReadS (numT n) = Lib.itoa n := by
  unfold numReadS Lib.replace Lib.itoa numT
  rw [if_neg (by decide)]
  by_cases h : n < 0
  · rw [if_pos h, if_pos h]
    have hi : Lib.index (194 :: 175 :: Lib.decDigits n.natAbs) [194, 175] = ((0 : Nat) : Int) := by simp [Lib.index, List.isPrefixOf]
    have hc := Lib.count_hit (sub := [194, 175]) (by decide) hi
    have hr : Lib.replaceNum (194 :: 175 :: Lib.decDigits n.natAbs) [194, 175] 1 = 1 := by
      unfold Lib.replaceNum
      rw [if_neg (by rw [hc]; omega)]; rfl
    rw [hr, Lib.replaceK_hit _ _ _ _ _ hi]
    rfl
  · rw [if_neg h, if_neg h, show n.natAbs = n.toNat by omega]
    have hi := idx_none2 (x := 194) (y := 175) (Lib.decDigits n.toNat) fun b hb => by
      have := dd_mem _ _ (Nat.le_refl _) b hb
      intro e; subst e; simp at this
    have hc := Lib.count_miss hi
    have hr : Lib.replaceNum (Lib.decDigits n.toNat) [194, 175] 1 = 0 := by
      unfold Lib.replaceNum
      rw [if_pos (by rw [hc]; omega), hc]
    rw [hr]; rfl
theorem numT_mem (n : Int) : ∀ b ∈ numT n, (48 ≤ b.toNat ∧ b.toNat ≤ 57) ∨ b = 194 ∨ b = 175 := fun b hb => by
  unfold numT at hb
  split at hb
  · rcases List.mem_cons.1 hb with h | hb
    · exact .inr (.inl h)
    · rcases List.mem_cons.1 hb with h | hb
      · exact .inr (.inr h)
      · exact .inl (dd_mem _ _ (Nat.le_refl _) b hb)
  · exact .inl (dd_mem _ _ (Nat.le_refl _) b hb)
theorem numT_no (n : Int) (c : UInt8) (h : c = 69 ∨ c = 32 ∨ c = 226) : ∀ b ∈ numT n, b ≠ c := fun b hb e => by
  have := numT_mem n b hb
  subst e
  rcases h with rfl | rfl | rfl <;> simp at this
theorem dread_numT (n : Int) (hn : I64 n) : dreadV (numT n) = n := by
  have ha : atoiV (Lib.itoa n) = n := by unfold atoiV; rw [atoi_itoa n hn]
  unfold dreadV
  unfold Lib.itoa at ha
  unfold numT
  by_cases h : n < 0
  · rw [if_pos h] at ha
    rw [if_pos h, if_pos (by simp [Lib.hasPrefix, List.isPrefixOf])]
    exact ha
  · rw [if_neg h] at ha
    rw [if_neg h, show n.natAbs = n.toNat by omega, if_neg]
    · exact ha
    · intro hp
      cases hd : Lib.decDigits n.toNat with
      | nil => exact dd_ne _ hd
      | cons c r =>
        have hc := dd_head hd
        rw [hd] at hp
        simp [Lib.hasPrefix, List.isPrefixOf] at hp
        rw [← hp.1] at hc
        simp at hc
theorem cut_none (s : List UInt8) (h : ∀ b ∈ s, b ≠ 69) : Lib.cut s [69] = (s, [], false) := by
  unfold Lib.cut
  rw [idx_none1 s h]; rfl
theorem cut_at (a b : List UInt8) (h : ∀ x ∈ a, x ≠ 69) : Lib.cut (a ++ 69 :: b) [69] = (a, b, true) := by
  unfold Lib.cut
  rw [idx_at1 a b h, if_pos (by omega)]
  simp
theorem numT_ne (n : Int) : numT n ≠ [] := by
  unfold numT
  split
  · simp
  · exact dd_ne _
theorem dread_nil : dreadV [] = 0 := by decide
/-- What decimal.Parse makes of a right number's text. -/
theorem dparse_decT (d : Dec) (hd : DecOk d) (hr : rightD d.man d.exp = true) : dparseN (decT d) = (d, true) := by
  have ht : decT d = if d.exp = 0 then numT d.man else numT d.man ++ [69] ++ numT d.exp := by unfold decT; rw [if_pos hr]
  have hne : decT d ≠ [] := by
    rw [ht]
    split
    · exact numT_ne _
    · simp
  have hc : dcutD (decT d) = d := by
    unfold dcutD
    rw [ht]
    split
    · next h =>
      rw [cut_none _ (numT_no _ _ (.inl rfl))]
      simp only [dread_numT _ hd.1, dread_nil]
      obtain ⟨m, e⟩ := d
      simp only at h; rw [h]
    · rw [List.append_assoc, List.singleton_append, cut_at _ _ (numT_no _ _ (.inl rfl))]
      simp only [dread_numT _ hd.1, dread_numT _ hd.2]
  unfold dparseN
  rw [if_neg hne, hc, if_pos rfl]
theorem numRead_decT (d : Dec) (hd : DecOk d) (hr : rightD d.man d.exp = true) : numReadN (decT d) = (d, true) := by
  unfold numReadN
  rw [dparse_decT d hd hr]; rfl
theorem ofN_right {n : Int} (h : rightD n 0 = true) : ofN n = ⟨n, 0⟩ := by
  unfold rightD at h
  simp only [Bool.and_eq_true, beq_iff_eq] at h
  unfold ofN
  rw [h.2.1, h.2.2]
theorem numRead_numT (n : Int) (hn : I64 n) : numReadN (numT n) = (ofN n, true) := by
  cases hr : rightD n 0 with
  | true =>
    have h0 : decT ⟨n, 0⟩ = numT n := by unfold decT; rw [if_pos hr]; rfl
    rw [← h0, numRead_decT ⟨n, 0⟩ ⟨hn, by unfold I64; simp⟩ hr, ofN_right hr]
  | false =>
    have hc : dcutD (numT n) = ⟨n, 0⟩ := by
      unfold dcutD
      rw [cut_none _ (numT_no _ _ (.inl rfl))]
      simp only [dread_numT _ hn, dread_nil]
    have hd : (dparseN (numT n)).2 = false := by
      unfold dparseN
      rw [if_neg (numT_ne n), hc, if_neg]
      unfold decT
      rw [if_neg (by rw [hr]; simp)]
      exact fun h => numT_ne n h.symm
    unfold numReadN
    rw [if_neg (by rw [hd]; simp), numReadS_numT]
    have hv : atoiV (Lib.itoa n) = n := by unfold atoiV; rw [atoi_itoa n hn]
    have ho : atoiOk (Lib.itoa n) = true := by unfold atoiOk; rw [atoi_itoa n hn]
    rw [hv, ho]
    simp
/-! ### How far they go -/
theorem cutP_digs : ∀ (t r : List UInt8), (∀ b ∈ t, isDig b = true) → cutP (t ++ r) = t.length + cutP r
  | [], r, _ => by simp
  | c :: t, r, h => by
    have hc := h c (by simp)
    have ih := cutP_digs t r fun b hb => h b (List.mem_cons_of_mem _ hb)
    rw [List.cons_append]
    cases hq : t ++ r with
    | nil =>
      rw [hq] at ih
      have hl := congrArg List.length hq
      simp at hl
      simp [cutP, hc, hl.1, hl.2]
    | cons d q =>
      rw [hq] at ih
      rw [cutP, if_pos hc, ih, List.length_cons]; omega
theorem dig_isDig {b : UInt8} (h : 48 ≤ b.toNat ∧ b.toNat ≤ 57) : isDig b = true := by
  have e : b = UInt8.ofNat b.toNat := by simp
  rw [e]
  have h1 := h.1; have h2 := h.2
  generalize b.toNat = n at h1 h2
  have : n = 48 ∨ n = 49 ∨ n = 50 ∨ n = 51 ∨ n = 52 ∨ n = 53 ∨ n = 54 ∨ n = 55 ∨ n = 56 ∨ n = 57 := by omega
  rcases this with rfl | rfl | rfl | rfl | rfl | rfl | rfl | rfl | rfl | rfl <;> decide
theorem cutP_numT (n : Int) (r : List UInt8) : cutP (numT n ++ r) = (numT n).length + cutP r := by
  have hd := fun u => cutP_digs (Lib.decDigits u) r fun b hb => dig_isDig (dd_mem u u (Nat.le_refl _) b hb)
  unfold numT
  split
  · rw [List.cons_append, List.cons_append, cutP, if_neg (by decide), if_pos ⟨rfl, rfl⟩, hd, List.length_cons, List.length_cons]; omega
  · exact hd _
theorem cutP_decT (d : Dec) (hr : rightD d.man d.exp = true) (r : List UInt8) : cutP (decT d ++ r) = (decT d).length + cutP r := by
  unfold decT
  rw [if_pos hr]
  split
  · exact cutP_numT _ _
  · rw [List.append_assoc, List.append_assoc, cutP_numT, List.singleton_append]
    have : cutP (69 :: (numT d.exp ++ r)) = 1 + cutP (numT d.exp ++ r) := by
      cases hq : numT d.exp ++ r with
      | nil => rfl
      | cons c q => rw [cutP, if_pos (by decide)]; omega
    rw [this, cutP_numT]
    simp only [List.length_append, List.length_cons, List.length_nil]; omega
/-- A text that is read as this number. -/
structure NumTxt (t : List UInt8) (d : Dec) : Prop where
  read : numReadN t = (d, true)
  cut : ∀ r, cutP (t ++ r) = t.length + cutP r
  ne : 0 < t.length
theorem NumTxt.num (n : Int) (hn : I64 n) : NumTxt (numT n) (ofN n) := ⟨numRead_numT n hn, cutP_numT n, List.length_pos_iff.2 (numT_ne n)⟩
theorem NumTxt.dec (d : Dec) (hd : DecOk d) (hr : rightD d.man d.exp = true) : NumTxt (decT d) d := ⟨numRead_decT d hd hr, cutP_decT d hr, List.length_pos_iff.2 (by
  unfold decT
  rw [if_pos hr]
  split
  · exact numT_ne _
  · simp)⟩
theorem joinT_one (x : List UInt8) : joinT [x] = x := Lib.join_one x [32]
theorem joinT_cons (x y : List UInt8) (r : List (List UInt8)) : joinT (x :: y :: r) = x ++ 32 :: joinT (y :: r) := by
  unfold joinT
  rw [Lib.join_cons, Lib.join_cons]
  rfl
/-- Texts that are read as these numbers, one by one. -/
def NumTxts : List (List UInt8) → List Dec → Prop
  | [], [] => True
  | t :: ts, d :: ds => NumTxt t d ∧ NumTxts ts ds
  | _, _ => False
/-- What may stand behind numbers. -/
def Behind (r : List UInt8) : Prop := cutP r = 0 ∧ Lib.hasPrefix r [32] = false
theorem readNs_join {r : List UInt8} (hr : Behind r) : ∀ (ts : List (List UInt8)) (ds : List Dec) (f : Nat) (acc : List Dec), ts ≠ [] → ts.length ≤ f → NumTxts ts ds → readNs f (joinT ts ++ r) acc = (acc ++ ds, r, true)
  | [], _, _, _, h, _, _ => absurd rfl h
  | _ :: _, [], _, _, _, _, hd => hd.elim
  | t :: ts, d :: ds, 0, _, _, hf, _ => by simp at hf
  | [t], [d], f + 1, acc, _, _, hd => by
    have h1 := hd.1
    have hc : cutP (t ++ r) = t.length := by rw [h1.cut, hr.1]; omega
    rw [joinT_one, readNs, hc]
    have e1 : (t ++ r).take t.length = t := List.take_left
    have e2 : (t ++ r).drop t.length = r := List.drop_left
    rw [e1, e2, h1.read, if_pos rfl, if_neg (fun h => by rw [hr.2] at h; exact absurd h.1 (by simp))]
  | [t], d :: e :: ds, f + 1, acc, _, _, hd => hd.2.elim
  | t :: u :: ts, [d], f + 1, acc, _, _, hd => hd.2.elim
  | t :: u :: ts, d :: e :: ds, f + 1, acc, _, hf, hd => by
    have h1 := hd.1
    have hu : NumTxt u e := hd.2.1
    have ih := readNs_join hr (u :: ts) (e :: ds) f (acc ++ [d]) (by simp) (by simp only [List.length_cons] at hf ⊢; omega) hd.2
    have hq : ∃ q, joinT (u :: ts) ++ r = u ++ q := by
      cases ts with
      | nil => exact ⟨r, by rw [joinT_one]⟩
      | cons v ts => exact ⟨32 :: joinT (v :: ts) ++ r, by rw [joinT_cons]; simp⟩
    have hc : cutP (t ++ 32 :: (joinT (u :: ts) ++ r)) = t.length := by
      rw [h1.cut]
      have : cutP (32 :: (joinT (u :: ts) ++ r)) = 0 := by
        obtain ⟨q, hq⟩ := hq
        have hul := hu.ne
        cases u with
        | nil => simp at hul
        | cons c u => rw [hq, List.cons_append, cutP, if_neg (by decide), if_neg (fun h => absurd h.1 (by decide))]
      omega
    rw [joinT_cons, List.append_assoc, List.cons_append, readNs, hc]
    have e1 : (t ++ 32 :: (joinT (u :: ts) ++ r)).take t.length = t := List.take_left
    have e2 : (t ++ 32 :: (joinT (u :: ts) ++ r)).drop t.length = 32 :: (joinT (u :: ts) ++ r) := List.drop_left
    have hp : 0 < cutP (joinT (u :: ts) ++ r) := by
      obtain ⟨q, hq⟩ := hq
      rw [hq, hu.cut]
      have := hu.ne
      omega
    rw [e1, e2, h1.read, if_pos rfl, if_pos ⟨by simp [Lib.hasPrefix, List.isPrefixOf], by simpa using hp⟩, List.drop_one, List.tail_cons, ih]
    simp
theorem join_len_ge : ∀ (ts : List (List UInt8)), (∀ t ∈ ts, 0 < t.length) → ts.length ≤ (joinT ts).length
  | [], _ => by simp
  | [t], h => by rw [joinT_one]; exact h t (by simp)
  | t :: u :: ts, h => by
    have h2 := join_len_ge (u :: ts) fun x hx => h x (List.mem_cons_of_mem _ hx)
    rw [joinT_cons, List.length_append, List.length_cons (a := (32 : UInt8)), List.length_cons (a := t)]
    omega
theorem numTxts_ne : ∀ {ts : List (List UInt8)} {ds : List Dec}, NumTxts ts ds → ∀ t ∈ ts, 0 < t.length
  | [], _, _ => fun t ht => by cases ht
  | _ :: _, [], h => h.elim
  | u :: ts, d :: ds, h => fun t ht => by
    rcases List.mem_cons.1 ht with rfl | ht
    · exact h.1.ne
    · exact numTxts_ne h.2 t ht
theorem readN_join {r : List UInt8} (hr : Behind r) (ts : List (List UInt8)) (ds : List Dec) (hne : ts ≠ []) (h : NumTxts ts ds) : readN (joinT ts ++ r) = (ds, r, true) := by
  unfold readN
  have := join_len_ge ts (numTxts_ne h)
  rw [readNs_join hr ts ds _ [] hne (by rw [List.length_append]; omega) h]
  rfl
end Go.Proofs.T
namespace Go.Proofs.T
open Go.RowKit
/-! ### Whole numbers as numbers -/
theorem strip_spec : ∀ (k : Nat) (m e : Int), m ≠ 0 → m.natAbs < 10 ^ k → e + k ≤ 32767 → ∃ j : Nat, j ≤ k ∧ (stripN k m e).2 = e + j ∧ m = (stripN k m e).1 * 10 ^ j ∧ (stripN k m e).1.tmod 10 ≠ 0
  | 0, m, e, h0, hk, _ => by simp at hk; omega
  | k + 1, m, e, h0, hk, he => by
    by_cases h1 : m.tmod 10 = 0
    · obtain ⟨k', ek, es, hk', hn⟩ := strip_go (e := e) hk h0 h1 (by omega)
      obtain rfl : k = k' := by omega
      obtain ⟨j, j1, j2, j3, j4⟩ := strip_spec k (m.tdiv 10) (e + 1) hn hk' (by omega)
      rw [es]
      refine ⟨j + 1, by omega, by rw [j2]; omega, ?_, j4⟩
      have := (td10 m).1
      rw [Int.pow_succ, ← Int.mul_assoc, ← j3]; omega
    · rw [strip_stop hk h0 (.inl h1)]
      exact ⟨0, by omega, by simp, by simp, h1⟩
theorem strip_pow : ∀ (j k : Nat) (m e : Int), m ≠ 0 → m.tmod 10 ≠ 0 → j < k → e + j ≤ 32767 → stripN k (m * 10 ^ j) e = (m, e + j)
  | 0, 0, _, _, _, _, h, _ => by omega
  | 0, k + 1, m, e, _, h1, _, _ => by simp [stripN, h1]
  | j + 1, 0, _, _, _, _, h, _ => by omega
  | j + 1, k + 1, m, e, h0, h1, hj, he => by
    have e1 : m * 10 ^ (j + 1) = m * 10 ^ j * 10 := by rw [Int.pow_succ, Int.mul_assoc]
    have e2 : (m * 10 ^ j * 10).tmod 10 = 0 := Int.mul_tmod_left _ _
    have e3 : (m * 10 ^ j * 10).tdiv 10 = m * 10 ^ j := Int.mul_tdiv_cancel _ (by decide)
    rw [e1, stripN, if_pos e2, if_pos (by omega), e3, strip_pow j k m (e + 1) h0 h1 (by omega) (by omega)]
    congr 1; omega
theorem i64_abs {n : Int} (h : I64 n) : n.natAbs < 10 ^ 19 := by
  unfold I64 at h
  have : (10 : Nat) ^ 19 = 10000000000000000000 := by decide
  omega
theorem norm_of {n : Int} (hn : I64 n) (h0 : n ≠ 0) : ∃ (m : Int) (j : Nat), j ≤ 18 ∧ m.tmod 10 ≠ 0 ∧ m ≠ 0 ∧ n = m * 10 ^ j ∧ normD n 0 = (m, (j : Int), true) := by
  have ha := i64_abs hn
  obtain ⟨j, j1, j2, j3, j4⟩ := strip_spec 20 n 0 h0 (by have : (10 : Nat) ^ 20 = 10 ^ 19 * 10 := rfl; omega) (by omega)
  generalize hs : stripN 20 n 0 = p at j2 j3 j4
  obtain ⟨m, e⟩ := p
  simp only at j2 j3 j4
  have hm0 : m ≠ 0 := fun h => j4 (by rw [h]; rfl)
  refine ⟨m, j, ?_, j4, hm0, j3, ?_⟩
  · apply Decidable.byContradiction
    intro hj
    have h2 : n.natAbs = m.natAbs * 10 ^ j := by rw [j3, Int.natAbs_mul, Int.natAbs_pow]; rfl
    have h3 : 10 ^ 19 ≤ 10 ^ j := Nat.pow_le_pow_right (by omega) (by omega)
    have h4 : 1 * 10 ^ j ≤ m.natAbs * 10 ^ j := Nat.mul_le_mul_right _ (by omega)
    omega
  · unfold normD finD
    rw [if_neg h0, hs, if_neg (by simp only; omega), if_neg (by simp only; omega)]
    simp only; rw [j2]; simp
theorem right_of {m : Int} {j : Nat} (h1 : m.tmod 10 ≠ 0) (h0 : m ≠ 0) (hj : j ≤ 18) : rightD m j = true := by
  have hs : stripN 20 m j = (m, (j : Int)) := by simp [stripN, h1]
  unfold rightD normD finD
  rw [if_neg h0, hs, if_neg (by simp only; omega), if_neg (by simp only; omega)]
  simp
theorem ofN_zero : ofN 0 = ⟨0, 0⟩ := rfl
theorem ofN_rightD (n : Int) (hn : I64 n) : rightD (ofN n).man (ofN n).exp = true := by
  by_cases h0 : n = 0
  · subst h0; rw [ofN_zero]; decide
  · obtain ⟨m, j, hj, h1, h2, _, h4⟩ := norm_of hn h0
    unfold ofN; rw [h4]
    exact right_of h1 h2 hj
theorem wholeL_pow : ∀ (j : Nat) (m : Int), I64 (m * 10 ^ j) → wholeL j m = (m * 10 ^ j, true)
  | 0, m, _ => by simp [wholeL]
  | j + 1, m, h => by
    have e1 : m * 10 ^ (j + 1) = m * 10 * 10 ^ j := by rw [Int.pow_succ, Int.mul_assoc, Int.mul_comm (10 ^ j) 10]
    have hb : I64 (m * 10) := by
      rw [e1] at h
      have hp : (1 : Int) ≤ 10 ^ j := by have : (0 : Int) < 10 ^ j := Int.pow_pos (by omega); omega
      unfold I64 at h ⊢
      generalize (10 : Int) ^ j = q at h hp
      have : (m * 10).natAbs ≤ (m * 10 * q).natAbs := by
        rw [Int.natAbs_mul (m * 10) q]
        have : (m * 10).natAbs * 1 ≤ (m * 10).natAbs * q.natAbs := Nat.mul_le_mul_left _ (by omega)
        omega
      by_cases hm : 0 ≤ m
      · have := Int.mul_nonneg (show (0 : Int) ≤ m * 10 by omega) (show 0 ≤ q by omega)
        omega
      · have := Int.mul_nonneg (show (0 : Int) ≤ -(m * 10) by omega) (show 0 ≤ q by omega)
        rw [Int.neg_mul] at this
        omega
    have hw : wrap64 (m * 10) = m * 10 := by unfold I64 at hb; unfold wrap64; omega
    rw [wholeL, hw, if_pos (Int.mul_tdiv_cancel _ (by decide)), wholeL_pow j (m * 10) (by rw [← e1]; exact h), e1]
theorem wholeL_val : ∀ (j : Nat) (m k : Int), I64 m → wholeL j m = (k, true) → k = m * 10 ^ j ∧ I64 k
  | 0, m, k, hm, h => by
    unfold wholeL at h
    injection h with h _
    subst h
    exact ⟨by simp, hm⟩
  | j + 1, m, k, hm, h => by
    unfold wholeL at h
    split at h
    · next h1 =>
      have hw : wrap64 (m * 10) = m * 10 := by
        have ht := td10 (wrap64 (m * 10))
        rw [h1] at ht
        unfold I64 at hm
        have hb := wrap64_bd (m * 10)
        unfold wrap64 at ht hb ⊢
        omega
      rw [hw] at h
      have := wholeL_val j (m * 10) k (by rw [← hw]; exact wrap64_bd _) h
      refine ⟨?_, this.2⟩
      rw [this.1, Int.pow_succ, Int.mul_assoc, Int.mul_comm 10 (10 ^ j)]
    · cases h
theorem whole_ofN (n : Int) (hn : I64 n) : wholeD (ofN n).man (ofN n).exp = (n, true) := by
  unfold wholeD
  rw [ofN_rightD n hn]
  by_cases h0 : n = 0
  · subst h0; rw [ofN_zero]; rfl
  · obtain ⟨m, j, hj, h1, h2, h3, h4⟩ := norm_of hn h0
    unfold ofN; rw [h4]
    simp only
    rw [if_pos (by simp; omega), Int.toNat_natCast, wholeL_pow j m (by rw [← h3]; exact hn), ← h3]
theorem right_tmod {m e : Int} (hm : I64 m) (he : e ≤ 18) (h : rightD m e = true) : (m = 0 ∧ e = 0) ∨ (m ≠ 0 ∧ m.tmod 10 ≠ 0) := by
  unfold rightD at h
  simp only [Bool.and_eq_true, beq_iff_eq] at h
  by_cases h0 : m = 0
  · subst h0
    left
    refine ⟨rfl, ?_⟩
    have h2 := h.2.2
    unfold normD at h2
    rw [if_pos rfl] at h2
    simp only at h2
    omega
  · right
    refine ⟨h0, ?_⟩
    have ha := i64_abs hm
    obtain ⟨j, j1, j2, j3, j4⟩ := strip_spec 20 m e h0 (by have : (10 : Nat) ^ 20 = 10 ^ 19 * 10 := rfl; omega) (by omega)
    have h1 := h.2.1
    unfold normD finD at h1
    rw [if_neg h0] at h1
    split at h1
    · exact absurd h1.symm h0
    · split at h1
      · exact absurd h1.symm h0
      · simp only at h1
        rw [h1] at j4
        exact j4
theorem ofN_whole {d : Dec} {k : Int} (hd : DecOk d) (h : wholeD d.man d.exp = (k, true)) : ofN k = d ∧ I64 k := by
  unfold wholeD at h
  split at h
  · next hc =>
    simp only [Bool.and_eq_true, decide_eq_true_eq] at hc
    obtain ⟨hk, hi⟩ := wholeL_val _ _ _ hd.1 h
    refine ⟨?_, hi⟩
    obtain ⟨m, e⟩ := d
    simp only at hc hk h
    rcases right_tmod hd.1 hc.2.2 hc.1 with ⟨h1, h2⟩ | ⟨h1, h2⟩
    · simp only at h1 h2
      subst h1; subst h2
      rw [Int.zero_mul] at hk
      rw [hk, ofN_zero]
    · simp only at h1 h2
      obtain ⟨j, rfl⟩ : ∃ j : Nat, e = j := ⟨e.toNat, by omega⟩
      rw [Int.toNat_natCast] at hk
      have hs := strip_pow j 20 m 0 h1 h2 (by omega) (by omega)
      have hk0 : k ≠ 0 := by
        rw [hk]
        exact Int.mul_ne_zero h1 (by have : (0 : Int) < 10 ^ j := Int.pow_pos (by omega); omega)
      have hn : normD k 0 = (m, (j : Int), true) := by
        unfold normD finD
        rw [if_neg hk0, hk, hs, if_neg (by simp only; omega), if_neg (by simp only; omega)]
        simp
      unfold ofN; rw [hn]
  · cases h
theorem wholeAll_ofN : ∀ (l : List Int), I64s l → wholeAll (l.map ofN) = some l
  | [], _ => rfl
  | n :: l, h => by
    rw [List.map_cons, wholeAll, whole_ofN n (h n (by simp)), if_pos rfl, wholeAll_ofN l fun x hx => h x (List.mem_cons_of_mem _ hx)]
    rfl
theorem ofN_wholeAll : ∀ (l : List Dec) (is : List Int), DecsOk l → wholeAll l = some is → is.map ofN = l
  | [], is, _, h => by
    obtain rfl : [] = is := by simpa [wholeAll] using h
    rfl
  | d :: l, is, hd, h => by
    unfold wholeAll at h
    split at h
    · next h1 =>
      cases hq : wholeAll l with
      | none => rw [hq] at h; cases h
      | some q =>
        rw [hq] at h
        simp only [Option.map_some, Option.some.injEq] at h
        subst h
        have h2 := ofN_wholeAll l q (fun x hx => hd x (List.mem_cons_of_mem _ hx)) hq
        have h3 := ofN_whole (d := d) (k := (wholeD d.man d.exp).1) (hd d (by simp)) (by rw [← h1])
        rw [List.map_cons, h2, h3.1]
    · cases h
theorem wholesP_ofN : ∀ (l : List Int), I64s l → wholesP (l.map ofN) true = (l, true)
  | [], _ => rfl
  | n :: l, h => by
    rw [List.map_cons, wholesP, whole_ofN n (h n (by simp)), Bool.and_self, wholesP_ofN l fun x hx => h x (List.mem_cons_of_mem _ hx)]
theorem any_right (l : List Int) (h : I64s l) : ((l.map ofN).any fun d => !rightD d.man d.exp) = false := by
  rw [List.any_eq_false]
  intro d hd
  obtain ⟨n, hn, rfl⟩ := List.mem_map.1 hd
  rw [ofN_rightD n (h n hn)]; simp
end Go.Proofs.T
namespace Go.Proofs.T
open Go.RowKit
/-! ### A quote's text is read as its runes -/
theorem charOk_nat {c : Int} (h : charOk c = true) : ∃ n : Nat, c = n ∧ n ≤ 1114111 ∧ ¬ (55296 ≤ n ∧ n ≤ 57343) := by
  rw [charOk_iff] at h
  exact ⟨c.toNat, by omega, by omega, by omega⟩
theorem u8_mod (x : Nat) (h : x < 256) : (x.toUInt8).toNat = x := by
  show (UInt8.ofNat x).toNat = x
  rw [UInt8.toNat_ofNat']; omega
theorem u39 (x : UInt8) (h : 39 = x) : x.toNat = 39 := by rw [← h]; rfl
theorem decode_enc (n : Nat) (h1 : n ≤ 1114111) (h2 : ¬ (55296 ≤ n ∧ n ≤ 57343)) (t : List UInt8) :
    Lib.decodeL (Lib.encodeRune n ++ t) = (n, (Lib.encodeRune n).length) ∧ (n ≠ 39 → ∀ b ∈ Lib.encodeRune n, b ≠ 39) ∧ 0 < (Lib.encodeRune n).length ∧ (¬ n < 128 → 2 ≤ (Lib.encodeRune n).length) := by
  rcases Nat.lt_or_ge n 128 with k1 | k1
  · have e : Lib.encodeRune (n : Int) = [n.toUInt8] := by
      unfold Lib.encodeRune; rw [Lib.encodeRuneZ_one (by omega) (by omega)]; simp
    rw [e]
    have u := u8_mod n (by omega)
    refine ⟨?_, ?_, by simp, fun h => absurd k1 h⟩
    · rw [Lib.decodeL_N]
      simp only [List.cons_append, List.nil_append, List.getD_cons_zero, u, Lib.decodeN, if_pos k1, List.length_cons, List.length_nil]
    · intro h b hb e
      rw [List.mem_singleton.1 hb] at e
      rw [e] at u
      simp at u; omega
  · rcases Nat.lt_or_ge n 2048 with k2 | k2
    · have e : Lib.encodeRune (n : Int) = [(192 + n / 64).toUInt8, (128 + n % 64).toUInt8] := by
        unfold Lib.encodeRune; rw [Lib.encodeRuneZ_two (by omega) (by omega)]
        simp only [List.map_cons, List.map_nil]
        rw [show (192 + (n : Int) / 64).toNat = 192 + n / 64 by omega, show (128 + (n : Int) % 64).toNat = 128 + n % 64 by omega]
      rw [e]
      have u0 := u8_mod (192 + n / 64) (by omega)
      have u1 := u8_mod (128 + n % 64) (by omega)
      refine ⟨?_, ?_, by simp, by simp⟩
      · rw [Lib.decodeL_N]
        simp only [List.cons_append, List.nil_append, List.getD_cons_zero, List.getD_cons_succ, u0, u1, List.length_cons, List.length_nil]
        unfold Lib.decodeN
        rw [if_neg (by omega), if_pos ⟨by omega, by omega, by omega⟩, if_pos (by omega)]
        congr 1; omega
      · intro _ b hb e
        subst e
        simp only [List.mem_cons, List.not_mem_nil, or_false] at hb
        rcases hb with h | h <;> (have := u39 _ h; omega)
    · rcases Nat.lt_or_ge n 65536 with k3 | k3
      · have e : Lib.encodeRune (n : Int) = [(224 + n / 4096).toUInt8, (128 + n / 64 % 64).toUInt8, (128 + n % 64).toUInt8] := by
          unfold Lib.encodeRune; rw [Lib.encodeRuneZ_three (by omega)]
          simp only [List.map_cons, List.map_nil]
          rw [show (224 + (n : Int) / 4096).toNat = 224 + n / 4096 by omega, show (128 + (n : Int) / 64 % 64).toNat = 128 + n / 64 % 64 by omega, show (128 + (n : Int) % 64).toNat = 128 + n % 64 by omega]
        rw [e]
        have u0 := u8_mod (224 + n / 4096) (by omega)
        have u1 := u8_mod (128 + n / 64 % 64) (by omega)
        have u2 := u8_mod (128 + n % 64) (by omega)
        refine ⟨?_, ?_, by simp, by simp⟩
        · rw [Lib.decodeL_N]
          simp only [List.cons_append, List.nil_append, List.getD_cons_zero, List.getD_cons_succ, u0, u1, u2, List.length_cons, List.length_nil]
          unfold Lib.decodeN
          rw [if_neg (by omega), if_neg (by omega), if_pos ⟨by omega, ⟨by omega, by omega⟩, by omega, by omega⟩, if_pos (by omega)]
          congr 1; omega
        · intro _ b hb e
          subst e
          simp only [List.mem_cons, List.not_mem_nil, or_false] at hb
          rcases hb with h | h | h <;> (have := u39 _ h; omega)
      · have e : Lib.encodeRune (n : Int) = [(240 + n / 262144).toUInt8, (128 + n / 4096 % 64).toUInt8, (128 + n / 64 % 64).toUInt8, (128 + n % 64).toUInt8] := by
          unfold Lib.encodeRune; rw [Lib.encodeRuneZ_four (by omega) (by omega)]
          simp only [List.map_cons, List.map_nil]
          rw [show (240 + (n : Int) / 262144).toNat = 240 + n / 262144 by omega, show (128 + (n : Int) / 4096 % 64).toNat = 128 + n / 4096 % 64 by omega, show (128 + (n : Int) / 64 % 64).toNat = 128 + n / 64 % 64 by omega, show (128 + (n : Int) % 64).toNat = 128 + n % 64 by omega]
        rw [e]
        have u0 := u8_mod (240 + n / 262144) (by omega)
        have u1 := u8_mod (128 + n / 4096 % 64) (by omega)
        have u2 := u8_mod (128 + n / 64 % 64) (by omega)
        have u3 := u8_mod (128 + n % 64) (by omega)
        refine ⟨?_, ?_, by simp, by simp⟩
        · rw [Lib.decodeL_N]
          simp only [List.cons_append, List.nil_append, List.getD_cons_zero, List.getD_cons_succ, u0, u1, u2, u3, List.length_cons, List.length_nil]
          unfold Lib.decodeN
          rw [if_neg (by omega), if_neg (by omega), if_neg (by omega), if_pos ⟨by omega, ⟨by omega, by omega⟩, ⟨by omega, by omega⟩, by omega, by omega⟩, if_pos (by omega)]
          congr 1; omega
        · intro _ b hb e
          subst e
          simp only [List.mem_cons, List.not_mem_nil, or_false] at hb
          rcases hb with h | h | h | h <;> (have := u39 _ h; omega)
/-- Each quotation mark twice. -/
def dblQ : List UInt8 → List UInt8
  | [] => []
  | b :: t => if b = 39 then 39 :: 39 :: dblQ t else b :: dblQ t
theorem dbl_app : ∀ (a b : List UInt8), dblQ (a ++ b) = dblQ a ++ dblQ b
  | [], b => rfl
  | c :: a, b => by
    rw [List.cons_append, dblQ, dblQ, dbl_app a b]
    split <;> rfl
theorem dbl_none : ∀ (a : List UInt8), (∀ b ∈ a, b ≠ 39) → dblQ a = a
  | [], _ => rfl
  | c :: a, h => by rw [dblQ, if_neg (h c (by simp)), dbl_none a fun b hb => h b (List.mem_cons_of_mem _ hb)]
theorem quoteC_dbl {c : Int} (h : charOk c = true) : quoteC c = dblQ (Lib.encodeRune c) := by
  obtain ⟨n, rfl, h1, h2⟩ := charOk_nat h
  unfold quoteC
  by_cases h3 : n = 39
  · subst h3; rfl
  · rw [if_neg (by omega), List.append_nil, dbl_none _ ((decode_enc n h1 h2 []).2.1 h3)]
theorem quoteL_dbl : ∀ (l : List Int), l.all charOk = true → quoteL l = dblQ (l.flatMap Lib.encodeRune)
  | [], _ => rfl
  | c :: l, h => by
    rw [List.all_cons, Bool.and_eq_true] at h
    unfold quoteL
    rw [List.flatMap_cons, List.flatMap_cons, dbl_app, quoteC_dbl h.1]
    have := quoteL_dbl l h.2
    unfold quoteL at this
    rw [this]
theorem ends_dbl (r : List UInt8) (hr : r = [] ∨ ∃ c q, r = c :: q ∧ c ≠ 39) : ∀ (s : List UInt8), endsL (dblQ s ++ 39 :: r) = some (dblQ s).length
  | [] => by
    rcases hr with rfl | ⟨c, q, rfl, hc⟩
    · rfl
    · show endsL (39 :: c :: q) = _
      rw [endsL, if_pos rfl, if_neg hc]; rfl
  | b :: s => by
    have ih := ends_dbl r hr s
    unfold dblQ
    split
    · rw [List.cons_append, List.cons_append, endsL, if_pos rfl, if_pos rfl, ih]; rfl
    · next hb =>
      rw [List.cons_append]
      cases hq : dblQ s ++ 39 :: r with
      | nil => simp at hq
      | cons d q =>
        rw [hq] at ih
        rw [endsL, if_neg hb, ih]; rfl
/-- Replacing all, with as many rounds as there are instances. -/
theorem rep_eq (s old new : List UInt8) (h : ¬ (old == new) = true) : Lib.replaceAll s old new = Lib.replaceK old new (Lib.count s old) s := by
  unfold Lib.replaceAll Lib.replace Lib.replaceNum
  rw [if_neg h, if_pos (.inl (by omega))]
theorem rep_miss (b : UInt8) (t new : List UInt8) (hb : b ≠ 39) : Lib.replaceK [39, 39] new (Lib.count (b :: t) [39, 39]) (b :: t) = b :: Lib.replaceK [39, 39] new (Lib.count t [39, 39]) t := by
  have hi : Lib.index (b :: t) [39, 39] = if Lib.index t [39, 39] == -1 then -1 else Lib.index t [39, 39] + 1 := by
    conv => lhs; unfold Lib.index
    rw [if_neg (by simp [List.isPrefixOf]; intro h; exact absurd h.symm hb)]
  rcases Lib.index_spec t [39, 39] with ⟨h1, _⟩ | ⟨i, h1, _⟩
  · rw [h1] at hi
    have hi2 : Lib.index (b :: t) [39, 39] = -1 := by simpa using hi
    rw [Lib.count_miss h1, Lib.count_miss hi2]; rfl
  · rw [h1] at hi
    have hi2 : Lib.index (b :: t) [39, 39] = ((i + 1 : Nat) : Int) := by
      rw [hi, if_neg (by simp)]; omega
    have c1 := Lib.count_hit (sub := [39, 39]) (by decide) h1
    have c2 := Lib.count_hit (sub := [39, 39]) (by decide) hi2
    have e1 : (b :: t).drop (i + 1 + ([39, 39] : List UInt8).length) = t.drop (i + ([39, 39] : List UInt8).length) := by
      rw [show i + 1 + ([39, 39] : List UInt8).length = (i + ([39, 39] : List UInt8).length) + 1 by simp only [List.length_cons, List.length_nil], List.drop_succ_cons]
    rw [e1] at c2
    rw [c2, c1, Nat.add_comm 1, Lib.replaceK_hit _ _ _ _ _ hi2, Lib.replaceK_hit _ _ _ _ _ h1, e1]
    rfl
theorem rep_hit (t new : List UInt8) : Lib.replaceK [39, 39] new (Lib.count (39 :: 39 :: t) [39, 39]) (39 :: 39 :: t) = new ++ Lib.replaceK [39, 39] new (Lib.count t [39, 39]) t := by
  have hi : Lib.index (39 :: 39 :: t) [39, 39] = ((0 : Nat) : Int) := by simp [Lib.index, List.isPrefixOf]
  have c1 := Lib.count_hit (sub := [39, 39]) (by decide) hi
  rw [c1, Nat.add_comm 1, Lib.replaceK_hit _ _ _ _ _ hi]
  rfl
theorem rep_dbl (s : List UInt8) : Lib.replaceAll (dblQ s) [39, 39] [39] = s := by
  rw [rep_eq _ _ _ (by decide)]
  induction s with
  | nil => rfl
  | cons b t ih =>
    unfold dblQ
    split
    · next h => rw [rep_hit, ih, h]; rfl
    · next h => rw [rep_miss _ _ _ h, ih]
theorem valid_enc {c : Int} (h : charOk c = true) (t : List UInt8) : Lib.validD (quoteC c ++ t) = Lib.validD t := by
  obtain ⟨n, rfl, h1, h2⟩ := charOk_nat h
  obtain ⟨d1, d2, d3, d4⟩ := decode_enc n h1 h2 t
  have hv : Lib.validD (Lib.encodeRune n ++ t) = Lib.validD t := by
    rw [Lib.validD_step _ (by cases hq : Lib.encodeRune (n : Int) with
      | nil => rw [hq] at d3; simp at d3
      | cons => simp), d1, if_neg, List.drop_left]
    rintro ⟨e1, e2⟩
    simp only at e1 e2
    have := d4 (by omega)
    omega
  unfold quoteC
  by_cases h3 : n = 39
  · subst h3
    show Lib.validD (39 :: 39 :: t) = _
    rw [Lib.validD_cons _ _ (by decide), Lib.validD_cons _ _ (by decide)]
  · rw [if_neg (by omega), List.append_nil, hv]
theorem valid_quote : ∀ (l : List Int), l.all charOk = true → Lib.validD (quoteL l) = true
  | [], _ => rfl
  | c :: l, h => by
    rw [List.all_cons, Bool.and_eq_true] at h
    unfold quoteL
    rw [List.flatMap_cons, valid_enc h.1]
    exact valid_quote l h.2
theorem runes_enc : ∀ (l : List Int) (f : Nat), l.all charOk = true → l.length ≤ f → runesL f (l.flatMap Lib.encodeRune) = l
  | [], 0, _, _ => rfl
  | [], f + 1, _, _ => rfl
  | c :: l, 0, _, h => by simp at h
  | c :: l, f + 1, h, hf => by
    rw [List.all_cons, Bool.and_eq_true] at h
    have ih := runes_enc l f h.2 (by simpa using hf)
    obtain ⟨n, rfl, h1, h2⟩ := charOk_nat h.1
    obtain ⟨d1, d2, d3, d4⟩ := decode_enc n h1 h2 (l.flatMap Lib.encodeRune)
    rw [List.flatMap_cons, runesL, if_neg (by cases hq : Lib.encodeRune (n : Int) with
      | nil => rw [hq] at d3; simp at d3
      | cons => simp), d1, List.drop_left, ih]
theorem enc_ge : ∀ (l : List Int), l.all charOk = true → l.length ≤ (l.flatMap Lib.encodeRune).length
  | [], _ => Nat.le_refl _
  | c :: l, h => by
    rw [List.all_cons, Bool.and_eq_true] at h
    obtain ⟨n, rfl, h1, h2⟩ := charOk_nat h.1
    have := (decode_enc n h1 h2 []).2.2.1
    have := enc_ge l h.2
    rw [List.flatMap_cons, List.length_append, List.length_cons]; omega
theorem quoteRead_T (l : List Int) (h : l.all charOk = true) : quoteReadN (quoteT l).1 = (l, [], true) := by
  have hq : (quoteT l).1 = 39 :: (dblQ (l.flatMap Lib.encodeRune) ++ [39]) := by
    unfold quoteT; rw [if_pos h, quoteL_dbl l h]; simp
  have hv := valid_quote l h
  rw [quoteL_dbl l h] at hv
  have he := ends_dbl [] (.inl rfl) (l.flatMap Lib.encodeRune)
  have hr := rep_dbl (l.flatMap Lib.encodeRune)
  have hn := runes_enc l (l.flatMap Lib.encodeRune).length h (enc_ge l h)
  rw [hq]
  unfold quoteReadN
  rw [if_pos (by simp [Lib.hasPrefix, List.isPrefixOf]), List.drop_one, List.tail_cons, he]
  simp only
  rw [List.take_left, if_pos hv, hr, hn]
  simp
end Go.Proofs.T
namespace Go.Proofs.T
open Go.RowKit
/-! ### Single nodes, and how their texts are read -/
theorem count_one (k : Nat) (h0 : 1 ≤ k) (h1 : k ≤ 1048576) : countS [(k : Int)] = ((k : Int), true) := by
  have hw : wrongN (k : Int) = false := by unfold wrongN; simp; omega
  have hw2 : wrongN (1 * (k : Int)) = false := by rw [Int.one_mul]; exact hw
  unfold countS
  rw [if_neg (by simp), if_neg (by simp [hw]), if_neg (by simp; omega), countL, if_neg (by rw [hw2]; simp), countL, Int.one_mul]
theorem count_two (k : Nat) (h0 : 1 ≤ k) (h1 : k ≤ 1048576) : countS [1, (k : Int)] = ((k : Int), true) := by
  have hw : wrongN (k : Int) = false := by unfold wrongN; simp; omega
  have h3 : wrongN 1 = false := by decide
  have h4 : wrongN (1 * 1) = false := by decide
  have hw2 : wrongN (1 * 1 * (k : Int)) = false := by rw [Int.one_mul, Int.one_mul]; exact hw
  unfold countS
  rw [if_neg (by simp), if_neg (by simp [hw, h3]), if_neg (by simp; omega), countL, if_neg (by rw [h4]; simp), countL, if_neg (by rw [hw2]; simp), countL, Int.one_mul, Int.one_mul]
theorem right_single (n : Node) (h5 : n.kind ≠ 5) (h0 : 0 ≤ itemsN n) (h1 : itemsN n ≤ 1048576) : rightA [n] = true := by
  have h : (walkN [n]).1 = 1 := by
    unfold walkN
    rw [walkL, if_neg (by omega), if_neg (by omega), if_neg (by simp)]
    simp only [if_neg h5, dec1, popZ, List.length_nil, popN]
    rfl
  unfold rightA takeN
  rw [h]; rfl
theorem charN (s l : List Int) (hc : countS s = ((l.length : Int), true)) (hl : l.length ≤ 1048576) (ha : l.all charOk = true) : tightN [⟨3, s, l, []⟩] = true ∧ notT [⟨3, s, l, []⟩] = (if 0 < s.length then intsT s ++ [226, 141, 180] else []) ++ (quoteT l).1 := by
  have hi : itemsN ⟨3, s, l, []⟩ = l.length := by
    unfold itemsN
    simp only [hc]
    rw [if_neg (by simp), if_pos (.inr (.inr trivial)), if_neg]
    rintro (h | h | h)
    · exact h rfl
    · exact h rfl
    · rw [List.any_eq_true] at h
      obtain ⟨x, hx, h⟩ := h
      have := List.all_eq_true.1 ha x hx
      unfold charOk at this
      rw [this] at h; cases h
  have hr := right_single ⟨3, s, l, []⟩ (show (3 : Int) ≠ 5 by decide) (by rw [hi]; omega) (by rw [hi]; omega)
  have ht : tightN [⟨3, s, l, []⟩] = true := by
    unfold tightN formA
    rw [hr]
    simp [formN]
  refine ⟨ht, ?_⟩
  rw [notT, if_pos ht]
  simp only [List.length_cons, List.length_nil, textN, headT, valueT, if_neg (show ¬ (3 : Int) = 5 by decide), if_true]
theorem numbers_info {s : List Int} {l : List Dec} {n : Node} (h : numbersT s l = (n, true)) : countS s = ((l.length : Int), true) ∧ (l.any fun d => !rightD d.man d.exp) = false ∧ ((wholeAll l = none ∧ n = ⟨4, s, [], l⟩) ∨ (∃ is, wholeAll l = some is ∧ n = ⟨if 0 < l.length ∧ (is.any fun n => !(n == 0 || n == 1)) = false then 1 else 2, s, is, []⟩)) := by
  unfold numbersT at h
  split at h
  · cases h
  · next h1 =>
    split at h
    · cases h
    · next h2 =>
      split at h
      · cases h
      · next h3 =>
        refine ⟨?_, by simpa using h3, ?_⟩
        · have e1 : (countS s).2 = true := by simpa using h1
          have e2 : (countS s).1 = (l.length : Int) := by simpa using h2
          rw [← e1, ← e2]
        · split at h
          · next h4 => injection h with h _; exact .inl ⟨h4, h.symm⟩
          · next is h4 => injection h with h _; exact .inr ⟨is, h4, h.symm⟩
theorem tight_single {n : Node} (hr : rightA [n] = true) (h3 : n.kind ≠ 3) (h5 : n.kind ≠ 5) (hf : (numbersT n.shape (numsN n)).1 = n) : tightN [n] = true ∧ notT [n] = (if 0 < n.shape.length then intsT n.shape ++ [226, 141, 180] else []) ++ valueT n := by
  have ht : tightN [n] = true := by
    unfold tightN formA
    rw [hr]
    simp [formN, h3, h5, hf]
  refine ⟨ht, ?_⟩
  rw [notT, if_pos ht]
  simp only [List.length_cons, List.length_nil, textN, headT]
  rw [if_neg h5, if_neg h5]
/-- The node of numbers is tight; its notation. -/
theorem numberN {s : List Int} {l : List Dec} {n : Node} (hd : DecsOk l) (h : numbersT s l = (n, true)) (hl0 : 0 < l.length) (hl : l.length ≤ 1048576) : tightN [n] = true ∧ notT [n] = (if 0 < s.length then intsT s ++ [226, 141, 180] else []) ++ (match wholeAll l with | none => decsT l | some is => intsT is) := by
  obtain ⟨hc, ha, h4⟩ := numbers_info h
  rcases h4 with ⟨h4, rfl⟩ | ⟨is, h4, rfl⟩
  · have hi : itemsN ⟨4, s, [], l⟩ = l.length := by
      unfold itemsN
      simp only [hc]
      rw [if_neg (by simp), if_neg (by decide), if_pos (by decide), if_neg]
      rintro (h | h | h)
      · exact h rfl
      · exact h rfl
      · rw [ha] at h; cases h
    have hr := right_single ⟨4, s, [], l⟩ (show (4 : Int) ≠ 5 by decide) (by rw [hi]; omega) (by rw [hi]; omega)
    have hf : (numbersT s (numsN ⟨4, s, [], l⟩)).1 = ⟨4, s, [], l⟩ := by
      show (numbersT s l).1 = _
      rw [h]
    obtain ⟨t1, t2⟩ := tight_single hr (show (4 : Int) ≠ 3 by decide) (show (4 : Int) ≠ 5 by decide) hf
    refine ⟨t1, ?_⟩
    rw [t2, h4]
    rfl
  · have hlen := (wholeAll_ok l is hd h4).2
    have hof := ofN_wholeAll l is hd h4
    have hcase : ∀ k : Int, (k = 1 ∧ (is.any fun n => !(n == 0 || n == 1)) = false) ∨ k = 2 → (if 0 < l.length ∧ (is.any fun n => !(n == 0 || n == 1)) = false then (1 : Int) else 2) = k → tightN [⟨k, s, is, []⟩] = true ∧ notT [⟨k, s, is, []⟩] = (if 0 < s.length then intsT s ++ [226, 141, 180] else []) ++ intsT is := by
      intro k hk hkk
      have hi : itemsN ⟨k, s, is, []⟩ = l.length := by
        unfold itemsN
        simp only [hc]
        rw [if_neg (by simp), if_pos (by rcases hk with ⟨rfl, _⟩ | rfl <;> simp), if_neg]
        rintro (h | h | h)
        · rw [hlen] at h; exact h rfl
        · exact h rfl
        · rcases hk with ⟨rfl, hk⟩ | rfl
          · have e : (is.any fun x => !fitsN 1 x) = (is.any fun n => !(n == 0 || n == 1)) := rfl
            rw [e, hk] at h; cases h
          · have e : (is.any fun x => !fitsN 2 x) = (is.any fun _ => false) := rfl
            rw [e] at h; simp at h
      have k3 : k ≠ 3 := by rcases hk with ⟨rfl, _⟩ | rfl <;> decide
      have k4 : k ≠ 4 := by rcases hk with ⟨rfl, _⟩ | rfl <;> decide
      have k5 : k ≠ 5 := by rcases hk with ⟨rfl, _⟩ | rfl <;> decide
      have hr := right_single ⟨k, s, is, []⟩ k5 (by rw [hi]; omega) (by rw [hi]; omega)
      have hf : (numbersT s (numsN ⟨k, s, is, []⟩)).1 = ⟨k, s, is, []⟩ := by
        unfold numsN
        simp only [if_neg k4]
        rw [hof, h]
        simp only [hkk]
      obtain ⟨t1, t2⟩ := tight_single hr k3 k5 hf
      refine ⟨t1, ?_⟩
      rw [t2]
      unfold valueT
      simp only [if_neg k3, if_neg k4]
      rw [if_neg (show ¬ is.length = 0 by omega)]
    rw [h4]
    simp only
    split
    · next hq => exact hcase 1 (.inl ⟨rfl, hq.2⟩) (if_pos hq)
    · next hq => exact hcase 2 (.inr rfl) (if_neg hq)
/-! ### Reading -/
theorem readN_bad (t : List UInt8) (h : cutP t = 0) : readN t = ([], [], false) := by
  unfold readN readNs
  rw [h, List.take_zero, if_neg]
  have : (numReadN []).2 = false := by decide
  rw [this]; simp
theorem cut_39 (t : List UInt8) : cutP (39 :: t) = 0 := by
  cases t with
  | nil => rfl
  | cons c t => rw [cutP, if_neg (by decide), if_neg (fun h => absurd h.1 (by decide))]
theorem cut_226 (t : List UInt8) : cutP (226 :: t) = 0 := by
  cases t with
  | nil => rfl
  | cons c t => rw [cutP, if_neg (by decide), if_neg (fun h => absurd h.1 (by decide))]
theorem behind_rho (v : List UInt8) : Behind ([226, 141, 180] ++ v) := ⟨cut_226 _, rfl⟩
theorem behind_nil : Behind [] := ⟨rfl, rfl⟩
/-- A text that begins as a number does. -/
def NumHead (t : List UInt8) : Prop := ∃ c q, t = c :: q ∧ ((48 ≤ c.toNat ∧ c.toNat ≤ 57) ∨ c = 194)
theorem numT_head (n : Int) (r : List UInt8) : NumHead (numT n ++ r) := by
  unfold numT
  split
  · exact ⟨194, _, rfl, .inr rfl⟩
  · cases hd : Lib.decDigits n.natAbs with
    | nil => exact absurd hd (dd_ne _)
    | cons c q => exact ⟨c, q ++ r, rfl, .inl (dd_head hd)⟩
theorem decT_head (d : Dec) (hr : rightD d.man d.exp = true) (r : List UInt8) : NumHead (decT d ++ r) := by
  unfold decT
  rw [if_pos hr]
  split
  · exact numT_head _ _
  · rw [List.append_assoc, List.append_assoc]; exact numT_head _ _
theorem join_head (t : List UInt8) (ts : List (List UInt8)) (r : List UInt8) (h : ∀ q, NumHead (t ++ q)) : NumHead (joinT (t :: ts) ++ r) := by
  cases ts with
  | nil => rw [joinT_one]; exact h r
  | cons u ts => rw [joinT_cons, List.append_assoc]; exact h _
theorem head_pre {t : List UInt8} (h : NumHead t) (c : UInt8) (q : List UInt8) (hc : c = 39 ∨ c = 40 ∨ c = 226) : Lib.hasPrefix t (c :: q) = false := by
  obtain ⟨d, r, rfl, hd⟩ := h
  have hne : c ≠ d := by
    rintro rfl
    rcases hc with rfl | rfl | rfl <;> rcases hd with hd | hd <;> simp at hd
  unfold Lib.hasPrefix
  simp [List.isPrefixOf, hne]
theorem skipP_no (p : PS) (t : List UInt8) (h : Lib.hasPrefix p.left t = false) : skipP p t = (false, p) := by unfold skipP; rw [if_neg (by rw [h]; simp)]
theorem pre_app (a b : List UInt8) : Lib.hasPrefix (a ++ b) a = true := by unfold Lib.hasPrefix; simp
theorem skipP_yes (t v : List UInt8) (ok : Bool) : skipP ⟨t ++ v, ok⟩ t = (true, ⟨v, ok⟩) := by
  unfold skipP; rw [if_pos (pre_app t v)]; simp
/-- Nothing stands ahead. -/
theorem array_bare (d : Nat) (t : List UInt8) (h1 : Lib.hasPrefix t [226, 138, 130] = false) (h2 : (skipIf (numbersP ⟨t, true⟩).2.ok (numbersP ⟨t, true⟩).2 [226, 141, 180]).ok = false) : arrayP (d + 1) ⟨t, true⟩ = itemsP (kidsP (arrayP d) (decide (0 < d))) [] ⟨t, true⟩ := by
  rw [arrayP, if_neg (by rw [skipP_no _ _ h1]; simp), if_neg (by rw [h2]; simp)]
/-- A shape stands ahead. -/
theorem array_shaped (d : Nat) (s : List Int) (v : List UInt8) (hs : s ≠ []) (hi : I64s s) : arrayP (d + 1) ⟨intsT s ++ [226, 141, 180] ++ v, true⟩ = itemsP (kidsP (arrayP d) (decide (0 < d))) s ⟨v, true⟩ := by
  have hf : NumTxts (s.map numT) (s.map ofN) := by
    clear hs
    induction s with
    | nil => exact trivial
    | cons n s ih => exact ⟨.num n (hi n (by simp)), ih fun x hx => hi x (List.mem_cons_of_mem _ hx)⟩
  have hh : NumHead (intsT s ++ ([226, 141, 180] ++ v)) := by
    cases s with
    | nil => exact absurd rfl hs
    | cons n s => exact join_head _ _ _ fun q => numT_head n q
  have hr : readN (intsT s ++ ([226, 141, 180] ++ v)) = (s.map ofN, [226, 141, 180] ++ v, true) := readN_join (behind_rho v) _ _ (by simpa using hs) hf
  have hn : numbersP ⟨intsT s ++ ([226, 141, 180] ++ v), true⟩ = (s.map ofN, ⟨[226, 141, 180] ++ v, true⟩) := by
    unfold numbersP; simp only [hr, Bool.and_self]
  have hk : skipIf true ⟨[226, 141, 180] ++ v, true⟩ [226, 141, 180] = ⟨v, true⟩ := by
    unfold skipIf; rw [if_pos rfl, skipP_yes]
  rw [List.append_assoc, arrayP, if_neg (by rw [skipP_no _ _ (head_pre hh _ _ (.inr (.inr rfl)))]; simp), hn]
  simp only
  rw [hk, if_pos rfl, wholesP_ofN s hi]
/-- A quote. -/
theorem items_quote (kids : Nat → PS → List Node × PS) (s l : List Int) (hc : countS s = ((l.length : Int), true)) (ha : l.all charOk = true) : itemsP kids s ⟨(quoteT l).1, true⟩ = ([⟨3, s, l, []⟩], ⟨[], true⟩) := by
  have hp : Lib.hasPrefix (quoteT l).1 [39] = true := by
    unfold quoteT; rw [if_pos ha]; simp [Lib.hasPrefix, List.isPrefixOf]
  unfold itemsP
  simp only [hc, Bool.and_self, hp, if_true, quoteRead_T l ha]
  simp
/-- Numbers. -/
theorem items_numbers (kids : Nat → PS → List Node × PS) (s : List Int) (ts : List (List UInt8)) (ds : List Dec) (n : Node) (hne : ts ≠ []) (hh : NumHead (joinT ts)) (h : NumTxts ts ds) (hn : numbersT s ds = (n, true)) : itemsP kids s ⟨joinT ts, true⟩ = ([n], ⟨[], true⟩) := by
  have hc := (numbers_info hn).1
  have hl : 0 < ds.length := by
    cases ts with
    | nil => exact absurd rfl hne
    | cons t ts =>
      cases ds with
      | nil => exact h.elim
      | cons => simp
  have hr : readN (joinT ts) = (ds, [], true) := by
    have := readN_join behind_nil ts ds hne h
    rwa [List.append_nil] at this
  unfold itemsP
  simp only [hc, Bool.and_self, if_true, head_pre hh 39 [] (.inl rfl), head_pre hh 40 [] (.inr (.inl rfl)), hr, hn]
  rw [if_neg (by simp), if_neg (by simp), if_neg (by omega)]
theorem parse_of {t : List UInt8} {n : List Node} (h : arrayP 16 ⟨t, true⟩ = (n, ⟨[], true⟩)) (hn : notT n = t) : parseN t = (n, true) := by
  unfold parseN
  rw [h]
  exact if_pos ⟨rfl, rfl, hn⟩
theorem parse_no {t : List UInt8} (h : (arrayP 16 ⟨t, true⟩).2.ok = false) : parseN t = ([], false) := by
  unfold parseN
  rw [if_neg (by rw [h]; simp)]
theorem skipIf_no (t : List UInt8) (x : List UInt8) (ok : Bool) (h : Lib.hasPrefix t x = false) (b : Bool) : (skipIf b ⟨t, ok⟩ x).ok = false := by
  unfold skipIf
  split
  · rw [skipP_no _ _ h]
  · rfl
/-! ### The four texts -/
theorem parse_quote (l : List Int) (hl : l.length = 1) (ha : l.all charOk = true) : parseN (quoteT l).1 = ([⟨3, [], l, []⟩], true) := by
  have hc : countS [] = ((l.length : Int), true) := by rw [hl]; rfl
  have hq : (quoteT l).1 = 39 :: (quoteL l ++ [39]) := by unfold quoteT; rw [if_pos ha]; simp
  have hb := array_bare 15 (quoteT l).1 (by rw [hq]; simp [Lib.hasPrefix, List.isPrefixOf]) (by
    unfold numbersP
    rw [hq]
    simp only [readN_bad _ (cut_39 _)]
    rfl)
  rw [items_quote _ [] l hc ha] at hb
  exact parse_of hb (by rw [(charN [] l hc (by omega) ha).2]; simp)
theorem parse_empty : parseN [] = ([], false) := parse_no (by
  have := array_bare 15 [] rfl (by
    unfold numbersP
    simp only [readN_bad [] rfl]
    rfl)
  rw [this]
  unfold itemsP
  simp only [count_nil, Bool.and_self, if_true, readN_bad [] rfl]
  rw [if_neg (by decide), if_neg (by decide), if_neg (by decide)]
  rfl)
theorem parse_numbers (ts : List (List UInt8)) (ds : List Dec) (n : Node) (hne : ts ≠ []) (hh : NumHead (joinT ts)) (h : NumTxts ts ds) (hn : numbersT [] ds = (n, true)) (ht : notT [n] = joinT ts) : parseN (joinT ts) = ([n], true) := by
  have hr : readN (joinT ts) = (ds, [], true) := by
    have := readN_join behind_nil ts ds hne h
    rwa [List.append_nil] at this
  have hb := array_bare 15 (joinT ts) (head_pre hh _ _ (.inr (.inr rfl))) (by
    unfold numbersP
    simp only [hr]
    exact skipIf_no _ _ _ rfl _)
  rw [items_numbers _ [] ts ds n hne hh h hn] at hb
  exact parse_of hb ht
theorem parse_shaped_quote (l : List Int) (h0 : 1 ≤ l.length) (h1 : l.length ≤ 1048576) : parseN (intsT [(l.length : Int)] ++ [226, 141, 180] ++ (quoteT l).1) = if l.all charOk = true then ([⟨3, [(l.length : Int)], l, []⟩], true) else ([], false) := by
  have hc := count_one l.length h0 h1
  have hi : I64s [(l.length : Int)] := fun x hx => by rw [List.mem_singleton.1 hx]; unfold I64; omega
  have hb := array_shaped 15 [(l.length : Int)] (quoteT l).1 (by simp) hi
  cases ha : l.all charOk with
  | true =>
    rw [if_pos rfl]
    rw [items_quote _ _ l hc ha] at hb
    exact parse_of hb (by rw [(charN _ l hc h1 ha).2, if_pos (by simp)])
  | false =>
    rw [if_neg (by simp)]
    have hq : (quoteT l).1 = [] := by unfold quoteT; rw [if_neg (by rw [ha]; simp)]
    rw [hq] at hb ⊢
    apply parse_no
    rw [hb]
    unfold itemsP
    simp only [hc, Bool.and_self, if_true, readN_bad [] rfl]
    rw [if_neg (by decide), if_neg (by decide), if_neg (by omega)]
    rfl
theorem numbers_of (s l : List Int) (hi : I64s l) (hc : countS s = ((l.length : Int), true)) : ∃ n, numbersT s (l.map ofN) = (n, true) := by
  unfold numbersT
  rw [if_neg (by rw [hc]; simp), if_neg (by rw [hc]; simp), if_neg (by rw [any_right l hi]; simp), wholeAll_ofN l hi]
  exact ⟨_, rfl⟩
theorem parse_shaped_ints (l : List Int) (hi : I64s l) (h0 : 1 ≤ l.length) (h1 : l.length ≤ 1048576) : ∃ n, numbersT [1, (l.length : Int)] (l.map ofN) = (n, true) ∧ parseN (intsT [1, (l.length : Int)] ++ [226, 141, 180] ++ intsT l) = ([n], true) := by
  have hc := count_two l.length h0 h1
  obtain ⟨n, hn⟩ := numbers_of _ l hi hc
  refine ⟨n, hn, ?_⟩
  have hs : I64s [1, (l.length : Int)] := fun x hx => by
    simp only [List.mem_cons, List.not_mem_nil, or_false] at hx
    rcases hx with rfl | rfl <;> unfold I64 <;> omega
  have hf : NumTxts (l.map numT) (l.map ofN) := by
    clear hn h0 h1 hc hs
    induction l with
    | nil => exact trivial
    | cons n l ih => exact ⟨.num n (hi n (by simp)), ih fun x hx => hi x (List.mem_cons_of_mem _ hx)⟩
  have hh : NumHead (joinT (l.map numT)) := by
    cases l with
    | nil => simp at h0
    | cons n s => have := join_head (numT n) (s.map numT) [] fun q => numT_head n q; rwa [List.append_nil] at this
  have hb := array_shaped 15 [1, (l.length : Int)] (intsT l) (by simp) hs
  have hd : DecsOk (l.map ofN) := fun d hd => by
    obtain ⟨x, hx, rfl⟩ := List.mem_map.1 hd
    exact ofN_ok x (hi x hx)
  have ht := numberN hd hn (by simp; omega) (by simpa using h1)
  rw [show intsT l = joinT (l.map numT) from rfl, items_numbers _ _ (l.map numT) _ n (by cases l with | nil => simp at h0 | cons => simp) hh hf hn] at hb
  refine parse_of hb ?_
  rw [ht.2, wholeAll_ofN l hi, if_pos (by simp)]
/-- One number's text: as it is written, and as a whole number's where it is one. -/
def aloneT (d : Dec) : List UInt8 := if (wholeD d.man d.exp).2 = true then intsT [(wholeD d.man d.exp).1] else decsT [d]
theorem alone_numbers (d : Dec) (hd : DecOk d) : (rightD d.man d.exp = false → (numbersT [] [d]).2 = false) ∧ (rightD d.man d.exp = true → ∃ n, numbersT [] [d] = (n, true) ∧ parseN (aloneT d) = ([n], true) ∧ notT [n] = aloneT d) := by
  constructor
  · intro h
    unfold numbersT
    rw [if_neg (by rw [count_nil]; simp), if_neg (by rw [count_nil]; simp), if_pos (by simp [h])]
  · intro h
    have hds : DecsOk [d] := fun x hx => by rw [List.mem_singleton.1 hx]; exact hd
    have hany : ([d].any fun d => !rightD d.man d.exp) = false := by simp [h]
    obtain ⟨n, hn⟩ : ∃ n, numbersT [] [d] = (n, true) := by
      unfold numbersT
      rw [if_neg (by rw [count_nil]; simp), if_neg (by rw [count_nil]; simp), if_neg (by rw [hany]; simp)]
      split
      · exact ⟨_, rfl⟩
      · exact ⟨_, rfl⟩
    have ht := numberN hds hn (by simp) (by simp)
    rw [if_neg (by simp), List.nil_append] at ht
    cases hw : (wholeD d.man d.exp).2 with
    | true =>
      have hk := ofN_whole (d := d) (k := (wholeD d.man d.exp).1) hd (by rw [← hw])
      have ha : aloneT d = joinT [numT (wholeD d.man d.exp).1] := by unfold aloneT; rw [if_pos hw]; rfl
      have hnt : notT [n] = aloneT d := by
        rw [ht.2]
        unfold aloneT
        rw [if_pos hw]
        simp only [wholeAll, hw, if_true, Option.map_some]
      refine ⟨n, hn, ?_, hnt⟩
      rw [ha]
      refine parse_numbers _ [d] n (by simp) (by rw [joinT_one]; have := numT_head (wholeD d.man d.exp).1 []; rwa [List.append_nil] at this) ?_ hn (by rw [hnt, ha])
      have := NumTxt.num (wholeD d.man d.exp).1 hk.2
      rw [hk.1] at this
      exact ⟨this, trivial⟩
    | false =>
      have ha : aloneT d = joinT [decT d] := by
        unfold aloneT decsT
        rw [if_neg (by rw [hw]; simp), if_neg (by rw [hany]; simp)]; rfl
      have hnt : notT [n] = aloneT d := by
        rw [ht.2]
        unfold aloneT
        rw [if_neg (by rw [hw]; simp)]
        simp only [wholeAll, hw]
        rfl
      refine ⟨n, hn, ?_, hnt⟩
      rw [ha]
      exact parse_numbers _ [d] n (by simp) (by rw [joinT_one]; have := decT_head d h []; rwa [List.append_nil] at this) ⟨.dec d hd h, trivial⟩ hn (by rw [hnt, ha])
end Go.Proofs.T
namespace Go.Proofs.T
open Go.RowKit
theorem alone_len (d : Dec) (hd : DecOk d) : (aloneT d).length ≤ 1000 := by
  unfold aloneT
  split
  · have := intsT_len [(wholeD d.man d.exp).1] (fun x hx => by rw [List.mem_singleton.1 hx]; exact wholeD_bd d.man d.exp hd.1)
    simp only [List.length_cons, List.length_nil] at this
    omega
  · unfold decsT
    split
    · simp
    · rw [show [d].map decT = [decT d] from rfl, joinT_one]
      have := decT_len d hd
      omega
theorem alone_fit {d : Dec} {n : Node} (hd : DecOk d) (h : numbersT [] [d] = (n, true)) (hn : notT [n] = aloneT d) (ht : tightN [n] = true) : NodesOk [n] ∧ InOk [n] ∧ (tightN [n] = true → (textN [n].length [n]).length ≤ 140737488355328) := by
  have hf := numbersT_fit [] [d] (fun x hx => by cases hx) (fun x hx => by rw [List.mem_singleton.1 hx]; exact hd) (by simp)
  rw [h] at hf
  have hl := alone_len d hd
  rw [notT, if_pos ht] at hn
  have h1 := hf.s; have h2 := hf.i; have h3 := hf.d
  simp only [List.length_cons, List.length_nil] at h1 h2 h3
  exact ⟨fun x hx => by rw [List.mem_singleton.1 hx]; exact hf.ok, fun x hx => by rw [List.mem_singleton.1 hx]; omega, fun _ => by rw [hn]; omega⟩
theorem tr_of {α : Type} {L : Ly α} {W : World} {ok : Nat → Prop} {A : Option Addr} {n : Nat} {xs : List α} (hz : 0 < L.sz) (h : Rd L W ok A n xs) : Rd L W tr A n xs := h.mono hz fun _ _ _ => trivial
theorem quote_le (l : List Int) : (quoteT l).1.length ≤ 5 * l.length + 2 := by
  have := quoteL_len l
  unfold quoteT
  split
  · simp only [List.length_append, List.length_cons, List.length_nil]; omega
  · simp
set_option maxHeartbeats 8000000 in
set_option maxRecDepth 100000 in
theorem alone_any (d : Dec) (n : Int) (w : World) (hd : DecOk d) (hn : I64 n) (hG : Glob w) :
    Calls Tryz.prog 5 #[decW d, .int .i64 n] w fun e w' => e = .returned (.bool true) ∧ Below w.heap.size w w' := by
  have HG := Lib.hid hG
  have HD := Lib.hid hd
  have hds : DecsOk [d] := fun x hx => by rw [List.mem_singleton.1 hx]; exact hd
  have HDS := Lib.hid hds
  have HNS := Lib.hid (show I64s [n] from fun x hx => by rw [List.mem_singleton.1 hx]; exact hn)
  have HA := Lib.hid (alone_numbers d hd)
  have HQ1 := Lib.hid (parse_quote [n] rfl)
  clear hG hd hds hn
  rcases hp : numbersT [] [d] with ⟨n1, r1⟩
  have HP := Lib.hid hp
  clear hp
  unfold decW
  go_enter Tryz.func5, Tryz.ntmps5
  go_wp2_with fail
  refine (small_any _ (HG.out.below (bl_alloc (Below.refl _ _) _))).mono ?_
  rintro e w1 ⟨rfl, g1⟩
  have hb1 := bl_trans g1 (bl_alloc (Below.refl _ _) _)
  have B1 := (Box.new w #[.int .i64 d.man, .int .i64 d.exp] 39).below g1
  clear g1
  have y0 : w1.cell? ⟨w.heap.size, 0, none⟩ = some (.int .i64 d.man) := B1.cell 0
  have y1 : w1.cell? ⟨w.heap.size, 1, none⟩ = some (.int .i64 d.exp) := B1.cell 1
  go_wp2_with fail
  have hq := numbersT_any [] [d] none (some ⟨w1.heap.size, 0, none⟩) 0 1 tr _ (Rd.nil _ _ _ _) (lit_decs w1 [d] 1 rfl (by omega) _ rfl) HDS.out (by simp) (by simp)
  rw [HP.out] at hq
  refine hq.mono ?_
  clear hq
  rintro e w2 ⟨A1, A2, A3, c1, c2, c3, rfl, hn1, g2⟩
  have g2' := bl_trans g2 (bl_alloc (Below.refl _ _) _)
  have hb2 := bl_trans g2' hb1
  have B2 := B1.below g2'
  have hz2 : w.heap.size < w2.heap.size := B2.lt
  clear g2 g2' y0 y1 B1
  have HN1 := Lib.hid (hn1.mono (ok' := tr) fun _ _ _ => trivial)
  clear hn1
  unfold nodeV nodeW
  go_wp2_with fail
  have hal := bl_alloc (Below.refl w2.heap.size w2) (.cells #[.int .i64 n1.kind, .slice A1 n1.shape.length c1, .slice A2 n1.ints.length c2, .slice A3 n1.decs.length c3] 28)
  have hbl := bl_alloc hal (.cells #[.int .i64 n] 3)
  have hq := quote_any (some ⟨w2.heap.size + 1, 0, none⟩) 1 [n] tr _ (by have := lit_ints (w2.alloc (.cells #[.int .i64 n1.kind, .slice A1 n1.shape.length c1, .slice A2 n1.ints.length c2, .slice A3 n1.decs.length c3] 28)) [n] 1 rfl (by omega) _ rfl; rw [size_al] at this; exact this) HNS.out (by simp)
  refine hq.mono ?_
  clear hq
  rintro e w3 ⟨rfl, g3⟩
  have g3' := bl_trans g3 hbl
  have hb3 := bl_trans g3' hb2
  have B3 := B2.below g3'
  have N3 : Box w3 w2.heap.size #[.int .i64 n1.kind, .slice A1 n1.shape.length c1, .slice A2 n1.ints.length c2, .slice A3 n1.decs.length c3] 28 := (Box.new w2 _ 28).below (bl_trans g3 (bl_alloc (Below.refl _ _) _))
  have HN3 := Lib.hid (HN1.out.move (w' := w3) fun b _ hlt => g3'.block b hlt)
  clear g3 g3' hal hbl B2 HN1
  have hz3 : w2.heap.size < w3.heap.size := N3.lt
  have hql := quote_le [n]
  simp only [List.length_cons, List.length_nil] at hql
  cases hg : [n].all charOk with
  | true =>
    have hq2 : (quoteT [n]).2 = true := by unfold quoteT; rw [if_pos hg]
    have hpq := HQ1.out hg
    rw [hq2]
    generalize (quoteT [n]).1 = qt at hpq hql
    clear hq2 hg HQ1
    go_wp2_with fail
    have hq := parse_any qt w3 (HG.out.below hb3) (by omega)
    rw [hpq] at hq
    refine hq.mono ?_
    clear hq hpq
    rintro e w4 ⟨v4, rfl, ⟨A4, c4, rfl, hc4, hr4⟩, g4⟩
    have hb4 := bl_trans g4 hb3
    have B4 := B3.below g4
    have N4 := N3.below g4
    have HN4 := Lib.hid (HN3.out.move (w' := w4) fun b _ hlt => g4.block b hlt)
    clear B3 N3 HN3 hb3
    have HR4 := Lib.hid (tr_of (by decide) hr4)
    clear hr4 g4
    simp only [List.length_cons, List.length_nil]
    go_wp2_with fail
    have hl5 := lit_node (W := w4.alloc (.cells #[.int .i64 n] 3)) (n := ⟨3, [], [n], []⟩) (A1 := none) (A2 := some ⟨w4.heap.size, 0, none⟩) (A3 := none) (c1 := 0) (c2 := 1) (c3 := 0) ⟨Nat.le_refl _, Rd.nil _ _ _ _, Nat.le_refl _, lit_ints w4 [n] 1 rfl (by omega) _ rfl, Nat.le_refl _, Rd.nil _ _ _ _⟩
    rw [size_al] at hl5
    have hbl5 : Below w4.heap.size w4 _ := bl_alloc (bl_alloc (Below.refl _ _) (.cells #[.int .i64 n] 3)) (.cells #[.int .i64 3, .slice none 0 0, .slice (some ⟨w4.heap.size, 0, none⟩) 1 1, .slice none 0 0] 28)
    refine (same_lit [⟨3, [], [n], []⟩] 1 rfl A4 (some ⟨w4.heap.size + 1, 0, none⟩) c4 1 _ (HR4.out.below (by decide) hbl5) hl5).mono ?_
    rintro e w5 ⟨rfl, g5⟩
    have g5' := bl_trans g5 hbl5
    have hb5 := bl_trans g5' hb4
    have B5 := B4.below g5'
    have N5 := N4.below g5'
    have HN5 := Lib.hid (HN4.out.move (w' := w5) fun b _ hlt => g5'.block b hlt)
    clear B4 N4 HN4 hb4 g5 g5' hbl5 hl5 HR4
    have y0 : w5.cell? ⟨w.heap.size, 0, none⟩ = some (.int .i64 d.man) := B5.cell 0
    have y1 : w5.cell? ⟨w.heap.size, 1, none⟩ = some (.int .i64 d.exp) := B5.cell 1
    obtain ⟨⟨z0, z1, z2, z3⟩, _⟩ := N5.cells
    cases hr : rightD d.man d.exp with
    | false =>
      have hr1 : r1 = false := by have := HA.out.1 hr; rw [HP.out] at this; exact this
      subst hr1
      go_wp2_with fail
      have hq := right_any d.man d.exp HD.out.1 HD.out.2 w5
      rw [hr] at hq
      refine hq.mono ?_
      rintro e w6 ⟨rfl, g6⟩
      go_wp2_with fail
      go_ret
      exact ⟨rfl, bl_trans g6 hb5⟩
    | true =>
      obtain ⟨n9, hn9, hpa, hnt⟩ := HA.out.2 hr
      rw [HP.out] at hn9
      injection hn9 with hn9 hr1
      subst hn9
      subst hr1
      have hkk := numberN HDS.out HP.out (by simp) (by simp)
      have hfit := alone_fit HD.out HP.out hnt hkk.1
      have hal := alone_len d HD.out
      have HPA := Lib.hid hpa; have HNT := Lib.hid hnt; have HFIT := Lib.hid hfit
      clear hpa hnt hfit hkk hr HA
      go_wp2_with fail
      have hb61 : Below w5.heap.size w5 _ := bl_alloc (Below.refl _ _) (.cells #[.int .i64 d.man, .int .i64 d.exp] 39)
      refine (decs_any (some ⟨w5.heap.size, 0, none⟩) 1 [d] tr _ (lit_decs w5 [d] 1 rfl (by omega) _ rfl) HDS.out ((HG.out.below hb5).below hb61) (by simp)).mono ?_
      rintro e w6 ⟨rfl, g6⟩
      replace g6 := bl_trans g6 hb61
      have hb6 := bl_trans g6 hb5
      have B6 := B5.below g6
      have N6 := N5.below g6
      have HN6 := Lib.hid (HN5.out.move (w' := w6) fun b _ hlt => g6.block b hlt)
      clear y0 y1 z0 z1 z2 z3 B5 N5 HN5 g6 hb61
      have y0 : w6.cell? ⟨w.heap.size, 0, none⟩ = some (.int .i64 d.man) := B6.cell 0
      have y1 : w6.cell? ⟨w.heap.size, 1, none⟩ = some (.int .i64 d.exp) := B6.cell 1
      go_wp2_with fail
      have hq := whole_any d.man d.exp HD.out.1 HD.out.2 w6
      have hkb := wholeD_bd d.man d.exp HD.out.1
      cases hw : (wholeD d.man d.exp).2 with
      | true =>
        have hat : aloneT d = intsT [(wholeD d.man d.exp).1] := by unfold aloneT; rw [if_pos hw]
        rw [hw] at hq
        generalize (wholeD d.man d.exp).1 = k at hq hat hkb
        refine hq.mono ?_
        clear hq hw
        rintro e w7 ⟨rfl, g7⟩
        have hb7 := bl_trans g7 hb6
        have N7 := N6.below g7
        have HN7 := Lib.hid (HN6.out.move (w' := w7) fun b _ hlt => g7.block b hlt)
        clear N6 HN6 y0 y1 B6 g7
        go_wp2_with fail
        have hb81 : Below w7.heap.size w7 _ := bl_alloc (Below.refl _ _) (.cells #[.int .i64 k] 3)
        refine (ints_any (some ⟨w7.heap.size, 0, none⟩) 1 [k] tr _ (lit_ints w7 [k] 1 rfl (by omega) _ rfl) (fun x hx => by rw [List.mem_singleton.1 hx]; exact hkb) ((HG.out.below hb7).below hb81) (by simp)).mono ?_
        rintro e w8 ⟨rfl, g8⟩
        replace g8 := bl_trans g8 hb81
        rw [← hat]
        have hb8 := bl_trans g8 hb7
        have N8 := N7.below g8
        have HN8 := Lib.hid (HN7.out.move (w' := w8) fun b _ hlt => g8.block b hlt)
        clear N7 HN7 hb81 g8 hat
        generalize aloneT d = at0 at hal HPA HNT HFIT
        go_wp2_with fail
        have hq := parse_any at0 w8 (HG.out.below hb8) (by omega)
        rw [HPA.out] at hq
        refine hq.mono ?_
        clear hq
        rintro e w9 ⟨v9, rfl, ⟨A9, c9, rfl, hc9, hr9⟩, g9⟩
        have HR9 := Lib.hid (tr_of (by decide) hr9)
        have hb9 := bl_trans g9 hb8
        have N9 := N8.below g9
        have HN9 := Lib.hid (HN8.out.move (w' := w9) fun b _ hlt => g9.block b hlt)
        clear hr9 g9 N8 HN8
        obtain ⟨⟨z0, z1, z2, z3⟩, _⟩ := N9.cells
        simp only [List.length_cons, List.length_nil]
        go_wp2_with fail
        have hl10 := lit_node HN9.out
        have hbl10 : Below w9.heap.size w9 _ := bl_alloc (Below.refl _ _) (.cells #[.int .i64 n1.kind, .slice A1 n1.shape.length c1, .slice A2 n1.ints.length c2, .slice A3 n1.decs.length c3] 28)
        refine (same_lit [n1] 1 rfl A9 (some ⟨w9.heap.size, 0, none⟩) c9 1 _ (HR9.out.below (by decide) hbl10) hl10).mono ?_
        rintro e w10 ⟨rfl, g10⟩
        replace g10 := bl_trans g10 hbl10
        have hb10 := bl_trans g10 hb9
        have N10 := N9.below g10
        have HN10 := Lib.hid (HN9.out.move (w' := w10) fun b _ hlt => g10.block b hlt)
        clear z0 z1 z2 z3 hl10 hbl10 N9 HN9 g10 HR9
        obtain ⟨⟨z0, z1, z2, z3⟩, _⟩ := N10.cells
        go_wp2_with fail
        have hl11 := lit_node HN10.out
        have hbl11 : Below w10.heap.size w10 _ := bl_alloc (Below.refl _ _) (.cells #[.int .i64 n1.kind, .slice A1 n1.shape.length c1, .slice A2 n1.ints.length c2, .slice A3 n1.decs.length c3] 28)
        have hq := text_any (some ⟨w10.heap.size, 0, none⟩) 1 [n1] tr _ hl11 (Nat.le_refl _) HFIT.out.1 HFIT.out.2.1 (by simp) ((HG.out.below hb10).below hbl11) HFIT.out.2.2
        rw [HNT.out] at hq
        refine hq.mono ?_
        clear hq
        rintro e w11 ⟨rfl, g11⟩
        replace g11 := bl_trans g11 hbl11
        clear hl11 hbl11
        unfold strV
        go_wp2_with fail
        go_ret
        exact ⟨by simp, bl_trans g11 hb10⟩
      | false =>
        have hat : aloneT d = decsT [d] := by unfold aloneT; rw [if_neg (by rw [hw]; simp)]
        rw [hw] at hq
        rw [← hat]
        refine hq.mono ?_
        clear hq hw hat
        rintro e w8 ⟨rfl, g7⟩
        have hb8 := bl_trans g7 hb6
        have N8 := N6.below g7
        have HN8 := Lib.hid (HN6.out.move (w' := w8) fun b _ hlt => g7.block b hlt)
        clear N6 HN6 y0 y1 B6 g7
        generalize aloneT d = at0 at hal HPA HNT HFIT
        go_wp2_with fail
        have hq := parse_any at0 w8 (HG.out.below hb8) (by omega)
        rw [HPA.out] at hq
        refine hq.mono ?_
        clear hq
        rintro e w9 ⟨v9, rfl, ⟨A9, c9, rfl, hc9, hr9⟩, g9⟩
        have HR9 := Lib.hid (tr_of (by decide) hr9)
        have hb9 := bl_trans g9 hb8
        have N9 := N8.below g9
        have HN9 := Lib.hid (HN8.out.move (w' := w9) fun b _ hlt => g9.block b hlt)
        clear hr9 g9 N8 HN8
        obtain ⟨⟨z0, z1, z2, z3⟩, _⟩ := N9.cells
        simp only [List.length_cons, List.length_nil]
        go_wp2_with fail
        have hl10 := lit_node HN9.out
        have hbl10 : Below w9.heap.size w9 _ := bl_alloc (Below.refl _ _) (.cells #[.int .i64 n1.kind, .slice A1 n1.shape.length c1, .slice A2 n1.ints.length c2, .slice A3 n1.decs.length c3] 28)
        refine (same_lit [n1] 1 rfl A9 (some ⟨w9.heap.size, 0, none⟩) c9 1 _ (HR9.out.below (by decide) hbl10) hl10).mono ?_
        rintro e w10 ⟨rfl, g10⟩
        replace g10 := bl_trans g10 hbl10
        have hb10 := bl_trans g10 hb9
        have N10 := N9.below g10
        have HN10 := Lib.hid (HN9.out.move (w' := w10) fun b _ hlt => g10.block b hlt)
        clear z0 z1 z2 z3 hl10 hbl10 N9 HN9 g10 HR9
        obtain ⟨⟨z0, z1, z2, z3⟩, _⟩ := N10.cells
        go_wp2_with fail
        have hl11 := lit_node HN10.out
        have hbl11 : Below w10.heap.size w10 _ := bl_alloc (Below.refl _ _) (.cells #[.int .i64 n1.kind, .slice A1 n1.shape.length c1, .slice A2 n1.ints.length c2, .slice A3 n1.decs.length c3] 28)
        have hq := text_any (some ⟨w10.heap.size, 0, none⟩) 1 [n1] tr _ hl11 (Nat.le_refl _) HFIT.out.1 HFIT.out.2.1 (by simp) ((HG.out.below hb10).below hbl11) HFIT.out.2.2
        rw [HNT.out] at hq
        refine hq.mono ?_
        clear hq
        rintro e w11 ⟨rfl, g11⟩
        replace g11 := bl_trans g11 hbl11
        clear hl11 hbl11
        unfold strV
        go_wp2_with fail
        go_ret
        exact ⟨by simp, bl_trans g11 hb10⟩
  | false =>
    have hq2 : (quoteT [n]).2 = false := by unfold quoteT; rw [if_neg (by rw [hg]; simp)]
    have hq1 : (quoteT [n]).1 = [] := by unfold quoteT; rw [if_neg (by rw [hg]; simp)]
    have hpq : parseN (quoteT [n]).1 = ([], false) := by rw [hq1]; exact parse_empty
    clear hq1
    rw [hq2]
    generalize (quoteT [n]).1 = qt at hpq hql
    clear hq2 hg HQ1
    go_wp2_with fail
    have hq := parse_any qt w3 (HG.out.below hb3) (by omega)
    rw [hpq] at hq
    refine hq.mono ?_
    clear hq hpq
    rintro e w4 ⟨v4, rfl, ⟨A4, c4, rfl, hc4, hr4⟩, g4⟩
    have hb4 := bl_trans g4 hb3
    have B4 := B3.below g4
    have N4 := N3.below g4
    have HN4 := Lib.hid (HN3.out.move (w' := w4) fun b _ hlt => g4.block b hlt)
    clear B3 N3 HN3 hb3
    clear hr4 g4 hc4
    simp only [List.length_nil]
    have y0 : w4.cell? ⟨w.heap.size, 0, none⟩ = some (.int .i64 d.man) := B4.cell 0
    have y1 : w4.cell? ⟨w.heap.size, 1, none⟩ = some (.int .i64 d.exp) := B4.cell 1
    obtain ⟨⟨z0, z1, z2, z3⟩, _⟩ := N4.cells
    cases hr : rightD d.man d.exp with
    | false =>
      have hr1 : r1 = false := by have := HA.out.1 hr; rw [HP.out] at this; exact this
      subst hr1
      go_wp2_with fail
      have hq := right_any d.man d.exp HD.out.1 HD.out.2 w4
      rw [hr] at hq
      refine hq.mono ?_
      rintro e w6 ⟨rfl, g6⟩
      go_wp2_with fail
      go_ret
      exact ⟨rfl, bl_trans g6 hb4⟩
    | true =>
      obtain ⟨n9, hn9, hpa, hnt⟩ := HA.out.2 hr
      rw [HP.out] at hn9
      injection hn9 with hn9 hr1
      subst hn9
      subst hr1
      have hkk := numberN HDS.out HP.out (by simp) (by simp)
      have hfit := alone_fit HD.out HP.out hnt hkk.1
      have hal := alone_len d HD.out
      have HPA := Lib.hid hpa; have HNT := Lib.hid hnt; have HFIT := Lib.hid hfit
      clear hpa hnt hfit hkk hr HA
      go_wp2_with fail
      have hb61 : Below w4.heap.size w4 _ := bl_alloc (Below.refl _ _) (.cells #[.int .i64 d.man, .int .i64 d.exp] 39)
      refine (decs_any (some ⟨w4.heap.size, 0, none⟩) 1 [d] tr _ (lit_decs w4 [d] 1 rfl (by omega) _ rfl) HDS.out ((HG.out.below hb4).below hb61) (by simp)).mono ?_
      rintro e w6 ⟨rfl, g6⟩
      replace g6 := bl_trans g6 hb61
      have hb6 := bl_trans g6 hb4
      have B6 := B4.below g6
      have N6 := N4.below g6
      have HN6 := Lib.hid (HN4.out.move (w' := w6) fun b _ hlt => g6.block b hlt)
      clear y0 y1 z0 z1 z2 z3 B4 N4 HN4 g6 hb61
      have y0 : w6.cell? ⟨w.heap.size, 0, none⟩ = some (.int .i64 d.man) := B6.cell 0
      have y1 : w6.cell? ⟨w.heap.size, 1, none⟩ = some (.int .i64 d.exp) := B6.cell 1
      go_wp2_with fail
      have hq := whole_any d.man d.exp HD.out.1 HD.out.2 w6
      have hkb := wholeD_bd d.man d.exp HD.out.1
      cases hw : (wholeD d.man d.exp).2 with
      | true =>
        have hat : aloneT d = intsT [(wholeD d.man d.exp).1] := by unfold aloneT; rw [if_pos hw]
        rw [hw] at hq
        generalize (wholeD d.man d.exp).1 = k at hq hat hkb
        refine hq.mono ?_
        clear hq hw
        rintro e w7 ⟨rfl, g7⟩
        have hb7 := bl_trans g7 hb6
        have N7 := N6.below g7
        have HN7 := Lib.hid (HN6.out.move (w' := w7) fun b _ hlt => g7.block b hlt)
        clear N6 HN6 y0 y1 B6 g7
        go_wp2_with fail
        have hb81 : Below w7.heap.size w7 _ := bl_alloc (Below.refl _ _) (.cells #[.int .i64 k] 3)
        refine (ints_any (some ⟨w7.heap.size, 0, none⟩) 1 [k] tr _ (lit_ints w7 [k] 1 rfl (by omega) _ rfl) (fun x hx => by rw [List.mem_singleton.1 hx]; exact hkb) ((HG.out.below hb7).below hb81) (by simp)).mono ?_
        rintro e w8 ⟨rfl, g8⟩
        replace g8 := bl_trans g8 hb81
        rw [← hat]
        have hb8 := bl_trans g8 hb7
        have N8 := N7.below g8
        have HN8 := Lib.hid (HN7.out.move (w' := w8) fun b _ hlt => g8.block b hlt)
        clear N7 HN7 hb81 g8 hat
        generalize aloneT d = at0 at hal HPA HNT HFIT
        go_wp2_with fail
        have hq := parse_any at0 w8 (HG.out.below hb8) (by omega)
        rw [HPA.out] at hq
        refine hq.mono ?_
        clear hq
        rintro e w9 ⟨v9, rfl, ⟨A9, c9, rfl, hc9, hr9⟩, g9⟩
        have HR9 := Lib.hid (tr_of (by decide) hr9)
        have hb9 := bl_trans g9 hb8
        have N9 := N8.below g9
        have HN9 := Lib.hid (HN8.out.move (w' := w9) fun b _ hlt => g9.block b hlt)
        clear hr9 g9 N8 HN8
        obtain ⟨⟨z0, z1, z2, z3⟩, _⟩ := N9.cells
        simp only [List.length_cons, List.length_nil]
        go_wp2_with fail
        have hl10 := lit_node HN9.out
        have hbl10 : Below w9.heap.size w9 _ := bl_alloc (Below.refl _ _) (.cells #[.int .i64 n1.kind, .slice A1 n1.shape.length c1, .slice A2 n1.ints.length c2, .slice A3 n1.decs.length c3] 28)
        refine (same_lit [n1] 1 rfl A9 (some ⟨w9.heap.size, 0, none⟩) c9 1 _ (HR9.out.below (by decide) hbl10) hl10).mono ?_
        rintro e w10 ⟨rfl, g10⟩
        replace g10 := bl_trans g10 hbl10
        have hb10 := bl_trans g10 hb9
        have N10 := N9.below g10
        have HN10 := Lib.hid (HN9.out.move (w' := w10) fun b _ hlt => g10.block b hlt)
        clear z0 z1 z2 z3 hl10 hbl10 N9 HN9 g10 HR9
        obtain ⟨⟨z0, z1, z2, z3⟩, _⟩ := N10.cells
        go_wp2_with fail
        have hl11 := lit_node HN10.out
        have hbl11 : Below w10.heap.size w10 _ := bl_alloc (Below.refl _ _) (.cells #[.int .i64 n1.kind, .slice A1 n1.shape.length c1, .slice A2 n1.ints.length c2, .slice A3 n1.decs.length c3] 28)
        have hq := text_any (some ⟨w10.heap.size, 0, none⟩) 1 [n1] tr _ hl11 (Nat.le_refl _) HFIT.out.1 HFIT.out.2.1 (by simp) ((HG.out.below hb10).below hbl11) HFIT.out.2.2
        rw [HNT.out] at hq
        refine hq.mono ?_
        clear hq
        rintro e w11 ⟨rfl, g11⟩
        replace g11 := bl_trans g11 hbl11
        clear hl11 hbl11
        unfold strV
        go_wp2_with fail
        go_ret
        exact ⟨by simp, bl_trans g11 hb10⟩
      | false =>
        have hat : aloneT d = decsT [d] := by unfold aloneT; rw [if_neg (by rw [hw]; simp)]
        rw [hw] at hq
        rw [← hat]
        refine hq.mono ?_
        clear hq hw hat
        rintro e w8 ⟨rfl, g7⟩
        have hb8 := bl_trans g7 hb6
        have N8 := N6.below g7
        have HN8 := Lib.hid (HN6.out.move (w' := w8) fun b _ hlt => g7.block b hlt)
        clear N6 HN6 y0 y1 B6 g7
        generalize aloneT d = at0 at hal HPA HNT HFIT
        go_wp2_with fail
        have hq := parse_any at0 w8 (HG.out.below hb8) (by omega)
        rw [HPA.out] at hq
        refine hq.mono ?_
        clear hq
        rintro e w9 ⟨v9, rfl, ⟨A9, c9, rfl, hc9, hr9⟩, g9⟩
        have HR9 := Lib.hid (tr_of (by decide) hr9)
        have hb9 := bl_trans g9 hb8
        have N9 := N8.below g9
        have HN9 := Lib.hid (HN8.out.move (w' := w9) fun b _ hlt => g9.block b hlt)
        clear hr9 g9 N8 HN8
        obtain ⟨⟨z0, z1, z2, z3⟩, _⟩ := N9.cells
        simp only [List.length_cons, List.length_nil]
        go_wp2_with fail
        have hl10 := lit_node HN9.out
        have hbl10 : Below w9.heap.size w9 _ := bl_alloc (Below.refl _ _) (.cells #[.int .i64 n1.kind, .slice A1 n1.shape.length c1, .slice A2 n1.ints.length c2, .slice A3 n1.decs.length c3] 28)
        refine (same_lit [n1] 1 rfl A9 (some ⟨w9.heap.size, 0, none⟩) c9 1 _ (HR9.out.below (by decide) hbl10) hl10).mono ?_
        rintro e w10 ⟨rfl, g10⟩
        replace g10 := bl_trans g10 hbl10
        have hb10 := bl_trans g10 hb9
        have N10 := N9.below g10
        have HN10 := Lib.hid (HN9.out.move (w' := w10) fun b _ hlt => g10.block b hlt)
        clear z0 z1 z2 z3 hl10 hbl10 N9 HN9 g10 HR9
        obtain ⟨⟨z0, z1, z2, z3⟩, _⟩ := N10.cells
        go_wp2_with fail
        have hl11 := lit_node HN10.out
        have hbl11 : Below w10.heap.size w10 _ := bl_alloc (Below.refl _ _) (.cells #[.int .i64 n1.kind, .slice A1 n1.shape.length c1, .slice A2 n1.ints.length c2, .slice A3 n1.decs.length c3] 28)
        have hq := text_any (some ⟨w10.heap.size, 0, none⟩) 1 [n1] tr _ hl11 (Nat.le_refl _) HFIT.out.1 HFIT.out.2.1 (by simp) ((HG.out.below hb10).below hbl11) HFIT.out.2.2
        rw [HNT.out] at hq
        refine hq.mono ?_
        clear hq
        rintro e w11 ⟨rfl, g11⟩
        replace g11 := bl_trans g11 hbl11
        clear hl11 hbl11
        unfold strV
        go_wp2_with fail
        go_ret
        exact ⟨by simp, bl_trans g11 hb10⟩
end Go.Proofs.T
namespace Go.Proofs.T
open Go.RowKit
set_option maxHeartbeats 8000000 in
set_option maxRecDepth 100000 in
theorem rows_in (A B : Option Addr) (ca cb : Nat) (l m : List Int) (w : World) (hA : Rd Ly.i64 w tr A l.length l) (hB : Rd Ly.i64 w tr B m.length m) (hca : l.length ≤ ca) (hl : I64s l) (hm : I64s m) (hG : Glob w)
    (hl0 : 1 ≤ l.length) (hl1 : l.length ≤ 100) (hm0 : 1 ≤ m.length) (hm1 : m.length ≤ 100) :
    Calls Tryz.prog 4 #[.slice A l.length ca, .slice B m.length cb] w fun e w' => e = .returned (.bool true) ∧ Below w.heap.size w w' := by
  obtain ⟨bB, oB, rfl, _⟩ := hB.row (by omega)
  have HG := Lib.hid hG
  have HA := Lib.hid (hA.mono (ok' := fun k => k < w.heap.size) (by decide) fun k _ hk => hk)
  have HB := Lib.hid (hB.mono (ok' := fun k => k < w.heap.size) (by decide) fun k _ hk => hk)
  have HL := Lib.hid hl
  have HCA := Lib.hid hca
  clear hca
  have HM := Lib.hid hm
  have iln : I64s [(l.length : Int)] := fun x hx => by rw [List.mem_singleton.1 hx]; unfold I64; omega
  have imn : I64s [(m.length : Int)] := fun x hx => by rw [List.mem_singleton.1 hx]; unfold I64; omega
  have im2 : I64s [1, (m.length : Int)] := fun x hx => by
    simp only [List.mem_cons, List.not_mem_nil, or_false] at hx
    rcases hx with rfl | rfl <;> unfold I64 <;> omega
  have HLN := Lib.hid iln
  have HMN := Lib.hid imn
  have HM2 := Lib.hid im2
  have HPQ := Lib.hid (parse_shaped_quote l hl0 (by omega))
  have HPI := Lib.hid (parse_shaped_ints m hm hm0 (by omega))
  have hql := quote_le l
  have htl := intsT_len _ iln
  have htm := intsT_len _ imn
  have htm2 := intsT_len _ hm
  have hint2 : intsT [1, (m.length : Int)] = [49, 32] ++ intsT [(m.length : Int)] := by
    show joinT [numT 1, numT (m.length : Int)] = [49, 32] ++ joinT [numT (m.length : Int)]
    rw [joinT_cons, joinT_one, show numT 1 = [49] by kernel_rfl]; rfl
  simp only [List.length_cons, List.length_nil] at htl htm
  clear hA hB hl hm hG iln imn im2
  go_enter Tryz.func4, Tryz.ntmps4
  go_wp2_with fail
  refine (small_any _ HG.out).mono ?_
  rintro e w1 ⟨rfl, g1⟩
  go_wp2_with fail
  refine (quote_any A ca l _ w1 (HA.out.below (by decide) g1) HL.out (by omega)).mono ?_
  rintro e w2 ⟨rfl, g2⟩
  have hb2 := bl_trans g2 g1
  clear g1 g2
  go_wp2_with fail
  have hbl : Below w2.heap.size w2 _ := bl_alloc (Below.refl _ _) (.cells #[.int .i64 (l.length : Int)] 3)
  refine (ints_any (some ⟨w2.heap.size, 0, none⟩) 1 [(l.length : Int)] tr _ (lit_ints w2 [(l.length : Int)] 1 rfl (by omega) _ rfl) HLN.out ((HG.out.below hb2).below hbl) (by simp)).mono ?_
  rintro e w3 ⟨rfl, g3⟩
  have hb3 := bl_trans (bl_trans g3 hbl) hb2
  clear g3 hbl hb2
  cases hg : l.all charOk with
  | true =>
    have hq2 : (quoteT l).2 = true := by unfold quoteT; rw [if_pos hg]
    have hpq := HPQ.out
    rw [if_pos hg] at hpq
    rw [hq2]
    generalize (quoteT l).1 = qt at hpq hql ⊢
    generalize intsT [(l.length : Int)] = lt at hpq htl ⊢
    clear hq2 hg HPQ
    have q1 : ¬ 9223372036854775807 < lt.length + 3 := by omega
    have q2 : ¬ 9223372036854775807 < lt.length + 3 + qt.length := by omega
    unfold strV
    go_wp2_with fail
    have hq := parse_any (lt ++ [226, 141, 180] ++ qt) w3 (HG.out.below hb3) (by simp only [List.length_append, List.length_cons, List.length_nil]; omega)
    rw [hpq] at hq
    unfold strV at hq
    rw [← bcat, ← bcat] at hq
    refine hq.mono ?_
    clear hq hpq
    rintro e w4 ⟨v4, rfl, ⟨A4, c4, rfl, hc4, hr4⟩, g4⟩
    have hb4 := bl_trans g4 hb3
    clear hb3 q1 q2 hql htl
    have HR4 := Lib.hid (tr_of (by decide) hr4)
    have HA4 := Lib.hid (tr_of (by decide) (HA.out.below (by decide) hb4))
    have la4 : ∀ k, (fun k => k < w.heap.size) k → k < w4.heap.size := fun k hk => Nat.lt_of_lt_of_le hk hb4.size
    clear hr4 g4
    simp only [List.length_cons, List.length_nil]
    go_wp2_with fail
    have hbl5 : Below w4.heap.size w4 _ := bl_alloc (bl_alloc (Below.refl _ _) (.cells #[.int .i64 (l.length : Int)] 3)) (.cells #[.int .i64 3, .slice (some ⟨w4.heap.size, 0, none⟩) 1 1, .slice A l.length ca, .slice none 0 0] 28)
    have hbl6 : Below w4.heap.size w4 _ := bl_alloc (Below.refl _ _) (.cells #[.int .i64 (l.length : Int)] 3)
    have hl5 := lit_node (W := w4.alloc (.cells #[.int .i64 (l.length : Int)] 3)) (n := ⟨3, [(l.length : Int)], l, []⟩) (A1 := some ⟨w4.heap.size, 0, none⟩) (A2 := A) (A3 := none) (c1 := 1) (c2 := ca) (c3 := 0) ⟨Nat.le_refl _, lit_ints w4 [(l.length : Int)] 1 rfl (by omega) _ rfl, HCA.out, HA4.out.below (by decide) hbl6, Nat.le_refl _, Rd.nil _ _ _ _⟩
    rw [size_al] at hl5
    refine (same_lit [⟨3, [(l.length : Int)], l, []⟩] 1 rfl A4 (some ⟨w4.heap.size + 1, 0, none⟩) c4 1 _ (HR4.out.below (by decide) hbl5) hl5).mono ?_
    rintro e w5 ⟨rfl, g5⟩
    have hb5 := bl_trans (bl_trans g5 hbl5) hb4
    clear hb4 g5 hbl5 hbl6 hl5 HR4 HA4 la4
    have HBW := Lib.hid (HB.out.below (by decide) hb5)
    have HGW := Lib.hid (HG.out.below hb5)
    clear HB HG HA HL
    go_wp2_with fail
    go_loopg [10, 11] m.length (fun gg s3 i wr => ∃ (k : Nat) (v : Value) (done : List Dec), v = s3 ∧ k ≤ m.length ∧ gg = m.length - k ∧ i = .int .i64 k ∧ Hid (done.length = k) ∧ wr.ownsRow w5.heap.size 39 2 v k (decCells done) ∧ Below w5.heap.size w5 wr ∧ Hid (done ++ (m.drop k).map ofN = m.map ofN))
    case atStart => exact ⟨0, _, [], rfl, by omega, by omega, rfl, rfl, World.ownsRow_nil _ _ _ _, Below.refl _ _, rfl⟩
    case round =>
      obtain ⟨k, v, done, rfl, hk, rfl, rfl, HD, hown, hb, H⟩ := hrel
      obtain ⟨A0, c0, rfl⟩ := own_form hown
      by_cases hlt : k < m.length
      · have e0 := (HBW.out.below (by decide) hb).at1 k hlt
        have hxk := HM.out m[k] (List.getElem_mem hlt)
        have hd : Hid (m.drop k = m[k] :: m.drop (k + 1)) := List.drop_eq_getElem_cons hlt
        generalize m[k] = x at e0 hxk hd
        have hw := of_any x hxk
        have hst : Hid ((done ++ [ofN x]) ++ (m.drop (k + 1)).map ofN = m.map ofN) := by rw [← H.out, hd.out]; simp [Hid]
        have hq : Hid (ofN x = ⟨(normD x 0).1, (normD x 0).2.1⟩) := rfl
        generalize (normD x 0).1 = q1 at hw hq
        generalize (normD x 0).2.1 = q2 at hw hq
        have HW := Lib.hid hw; clear hw hxk
        go_wp2_with (first
          | (go_at_call 15; refine (HW.out _).mono ?_; rintro e w6 ⟨rfl, hb1⟩)
          | (at_builtin; refine app_one (w0 := w5) w5.heap.size rfl (.tmp 75) (.tmp 81) 26 39 (.agg #[.int .i64 0, .int .i64 0]) 2 16 rfl Tryz.underlying26 info39 rfl (by decide) _ k (decCells done) [.int .i64 q1, .int .i64 q2] rfl rfl rfl (one_two _ _) (own_below hown hb1) (bl_trans hb1 hb) (bl_trans hb1 hb).size (by simp only [maxLen]; omega) (by omega) ?_; intro v1 w7 hown2 hb2 hg2 _))
        go_roundg (m.length - (k + 1))
        case measure => omega
        case rel => exact ⟨k + 1, v1, done ++ [ofN x], rfl, by omega, rfl, by go_num, by rw [List.length_append, HD.out]; rfl, by rw [decCells_app, hq.out]; exact hown2, hb2, hst⟩
      · have hkn : k = m.length := by omega
        have HF : Hid (m.map ofN = done) := by rw [← H.out, hkn, List.drop_length]; simp [Hid]
        have hsl : SlF lDec wr w5.heap.size (.slice A0 k c0) (m.map ofN) := by rw [HF.out]; exact SlF.ofD (by rw [HD.out]; exact hown) (by rw [HD.out]; omega)
        obtain ⟨A9, c9, e9, hc9, hr9⟩ := hsl
        have hlm : (m.map ofN).length = m.length := by simp
        rw [hlm] at e9 hc9 hr9
        injection e9 with e9 e9a e9b
        subst e9; subst e9a; subst e9b
        have HR9 := Lib.hid (tr_of (by decide) hr9)
        have hbr := bl_trans hb hb5
        clear hkn HF HD H hown hr9 hlt
        go_wp2_with fail
        have hbl : Below wr.heap.size wr _ := bl_alloc (Below.refl _ _) (.cells #[.int .i64 1, .int .i64 (m.length : Int)] 3)
        obtain ⟨n1, hn1, hp1⟩ := HPI.out
        have hq := numbersT_any [1, (m.length : Int)] (m.map ofN) (some ⟨wr.heap.size, 0, none⟩) A0 2 c0 tr _ (lit_ints wr [1, (m.length : Int)] 2 rfl (by omega) _ rfl) (by rw [hlm]; exact HR9.out.below (by decide) hbl) (fun d hd => by obtain ⟨x, hx, rfl⟩ := List.mem_map.1 hd; exact ofN_ok x (HM.out x hx)) (by simp) (by omega)
        rw [hn1, hlm] at hq
        refine hq.mono ?_
        clear hq
        rintro e w8 ⟨A1, A2, A3, c1, c2, c3, rfl, hno, g8⟩
        have g8' := bl_trans g8 hbl
        have hb8 := bl_trans g8' hbr
        have HBM := Lib.hid (HBW.out.below (by decide) (bl_trans g8' hb))
        have HN8 := Lib.hid (hno.mono (ok' := tr) fun _ _ _ => trivial)
        have HG8 := Lib.hid (HGW.out.below (bl_trans g8' hb))
        clear hno g8 g8' hbl HR9 hb hbr HBW HGW
        have HP1 := Lib.hid hp1
        clear hp1 HPI
        unfold nodeV nodeW
        go_wp2_with fail
        have hal := bl_alloc (Below.refl w8.heap.size w8) (.cells #[.int .i64 n1.kind, .slice A1 n1.shape.length c1, .slice A2 n1.ints.length c2, .slice A3 n1.decs.length c3] 28)
        have hbl := bl_alloc hal (.cells #[.int .i64 (m.length : Int)] 3)
        have hq := ints_any (some ⟨w8.heap.size + 1, 0, none⟩) 1 [(m.length : Int)] tr _ (by have := lit_ints (w8.alloc (.cells #[.int .i64 n1.kind, .slice A1 n1.shape.length c1, .slice A2 n1.ints.length c2, .slice A3 n1.decs.length c3] 28)) [(m.length : Int)] 1 rfl (by omega) _ rfl; rw [size_al] at this; exact this) HMN.out (HG8.out.below hbl) (by simp)
        refine hq.mono ?_
        clear hq
        rintro e w10 ⟨rfl, g10⟩
        have N10 : Box w10 w8.heap.size #[.int .i64 n1.kind, .slice A1 n1.shape.length c1, .slice A2 n1.ints.length c2, .slice A3 n1.decs.length c3] 28 := (Box.new w8 _ 28).below (bl_trans g10 (bl_alloc (Below.refl _ _) _))
        replace g10 := bl_trans g10 hbl
        have hb10 := bl_trans g10 hb8
        have HN10 := Lib.hid (HN8.out.move (w' := w10) fun b _ hlt => g10.block b hlt)
        have HBN := Lib.hid (HBM.out.below (by decide) g10)
        have HG10 := Lib.hid (HG8.out.below g10)
        clear g10 hal hbl HN8 HBM HG8 hb8
        rw [hint2] at HP1
        generalize intsT [(m.length : Int)] = mt at HP1 htm hint2 ⊢
        clear hint2
        have q1 : ¬ 9223372036854775807 < 2 + mt.length := by omega
        have q2 : ¬ 9223372036854775807 < 2 + mt.length + 3 := by omega
        unfold strV
        go_wp2_with fail
        refine (ints_any _ cb m _ w10 HBN.out HM.out HG10.out (by omega)).mono ?_
        rintro e w11 ⟨rfl, g11⟩
        generalize intsT m = mm at HP1 htm2 ⊢
        have q3 : ¬ 9223372036854775807 < 2 + mt.length + 3 + mm.length := by omega
        have N11 := N10.below g11
        have hb11 := bl_trans g11 hb10
        have HN11 := Lib.hid (HN10.out.move (w' := w11) fun b _ hlt => g11.block b hlt)
        have HG11 := Lib.hid (HG10.out.below g11)
        clear N10 hb10 HN10 HG10 g11 HBN
        unfold strV
        go_wp2_with fail
        have hq := parse_any ([49, 32] ++ mt ++ [226, 141, 180] ++ mm) w11 HG11.out (by simp only [List.length_append, List.length_cons, List.length_nil]; omega)
        rw [HP1.out] at hq
        unfold strV at hq
        rw [← bcat, ← bcat, ← bcat] at hq
        refine hq.mono ?_
        clear hq
        rintro e w12 ⟨v12, rfl, ⟨A12, c12, rfl, hc12, hr12⟩, g12⟩
        have HR12 := Lib.hid (tr_of (by decide) hr12)
        have hb12 := bl_trans g12 hb11
        have N12 := N11.below g12
        have HN12 := Lib.hid (HN11.out.move (w' := w12) fun b _ hlt => g12.block b hlt)
        clear hr12 g12 N11 HN11
        obtain ⟨⟨z0, z1, z2, z3⟩, _⟩ := N12.cells
        simp only [List.length_cons, List.length_nil]
        go_wp2_with fail
        have hl10 := lit_node HN12.out
        have hbl10 : Below w12.heap.size w12 _ := bl_alloc (Below.refl _ _) (.cells #[.int .i64 n1.kind, .slice A1 n1.shape.length c1, .slice A2 n1.ints.length c2, .slice A3 n1.decs.length c3] 28)
        refine (same_lit [n1] 1 rfl A12 (some ⟨w12.heap.size, 0, none⟩) c12 1 _ (HR12.out.below (by decide) hbl10) hl10).mono ?_
        rintro e w13 ⟨rfl, g13⟩
        go_wp2_with fail
        go_ret
        exact ⟨rfl, bl_trans (bl_trans g13 hbl10) hb12⟩
  | false =>
    have hq2 : (quoteT l).2 = false := by unfold quoteT; rw [if_neg (by rw [hg]; simp)]
    have hpq := HPQ.out
    rw [if_neg (by rw [hg]; simp)] at hpq
    rw [hq2]
    generalize (quoteT l).1 = qt at hpq hql ⊢
    generalize intsT [(l.length : Int)] = lt at hpq htl ⊢
    clear hq2 hg HPQ
    have q1 : ¬ 9223372036854775807 < lt.length + 3 := by omega
    have q2 : ¬ 9223372036854775807 < lt.length + 3 + qt.length := by omega
    unfold strV
    go_wp2_with fail
    have hq := parse_any (lt ++ [226, 141, 180] ++ qt) w3 (HG.out.below hb3) (by simp only [List.length_append, List.length_cons, List.length_nil]; omega)
    rw [hpq] at hq
    unfold strV at hq
    rw [← bcat, ← bcat] at hq
    refine hq.mono ?_
    clear hq hpq
    rintro e w4 ⟨v4, rfl, ⟨A4, c4, rfl, hc4, hr4⟩, g4⟩
    have hb4 := bl_trans g4 hb3
    clear hb3 q1 q2 hql htl
    clear hr4 g4 hc4
    simp only [List.length_nil]
    have HBW := Lib.hid (HB.out.below (by decide) hb4)
    have HGW := Lib.hid (HG.out.below hb4)
    clear HB HG HA HL
    go_wp2_with fail
    go_loopg [10, 11] m.length (fun gg s3 i wr => ∃ (k : Nat) (v : Value) (done : List Dec), v = s3 ∧ k ≤ m.length ∧ gg = m.length - k ∧ i = .int .i64 k ∧ Hid (done.length = k) ∧ wr.ownsRow w4.heap.size 39 2 v k (decCells done) ∧ Below w4.heap.size w4 wr ∧ Hid (done ++ (m.drop k).map ofN = m.map ofN))
    case atStart => exact ⟨0, _, [], rfl, by omega, by omega, rfl, rfl, World.ownsRow_nil _ _ _ _, Below.refl _ _, rfl⟩
    case round =>
      obtain ⟨k, v, done, rfl, hk, rfl, rfl, HD, hown, hb, H⟩ := hrel
      obtain ⟨A0, c0, rfl⟩ := own_form hown
      by_cases hlt : k < m.length
      · have e0 := (HBW.out.below (by decide) hb).at1 k hlt
        have hxk := HM.out m[k] (List.getElem_mem hlt)
        have hd : Hid (m.drop k = m[k] :: m.drop (k + 1)) := List.drop_eq_getElem_cons hlt
        generalize m[k] = x at e0 hxk hd
        have hw := of_any x hxk
        have hst : Hid ((done ++ [ofN x]) ++ (m.drop (k + 1)).map ofN = m.map ofN) := by rw [← H.out, hd.out]; simp [Hid]
        have hq : Hid (ofN x = ⟨(normD x 0).1, (normD x 0).2.1⟩) := rfl
        generalize (normD x 0).1 = q1 at hw hq
        generalize (normD x 0).2.1 = q2 at hw hq
        have HW := Lib.hid hw; clear hw hxk
        go_wp2_with (first
          | (go_at_call 15; refine (HW.out _).mono ?_; rintro e w6 ⟨rfl, hb1⟩)
          | (at_builtin; refine app_one (w0 := w4) w4.heap.size rfl (.tmp 75) (.tmp 81) 26 39 (.agg #[.int .i64 0, .int .i64 0]) 2 16 rfl Tryz.underlying26 info39 rfl (by decide) _ k (decCells done) [.int .i64 q1, .int .i64 q2] rfl rfl rfl (one_two _ _) (own_below hown hb1) (bl_trans hb1 hb) (bl_trans hb1 hb).size (by simp only [maxLen]; omega) (by omega) ?_; intro v1 w7 hown2 hb2 hg2 _))
        go_roundg (m.length - (k + 1))
        case measure => omega
        case rel => exact ⟨k + 1, v1, done ++ [ofN x], rfl, by omega, rfl, by go_num, by rw [List.length_append, HD.out]; rfl, by rw [decCells_app, hq.out]; exact hown2, hb2, hst⟩
      · have hkn : k = m.length := by omega
        have HF : Hid (m.map ofN = done) := by rw [← H.out, hkn, List.drop_length]; simp [Hid]
        have hsl : SlF lDec wr w4.heap.size (.slice A0 k c0) (m.map ofN) := by rw [HF.out]; exact SlF.ofD (by rw [HD.out]; exact hown) (by rw [HD.out]; omega)
        obtain ⟨A9, c9, e9, hc9, hr9⟩ := hsl
        have hlm : (m.map ofN).length = m.length := by simp
        rw [hlm] at e9 hc9 hr9
        injection e9 with e9 e9a e9b
        subst e9; subst e9a; subst e9b
        have HR9 := Lib.hid (tr_of (by decide) hr9)
        have hbr := bl_trans hb hb4
        clear hkn HF HD H hown hr9 hlt
        go_wp2_with fail
        have hbl : Below wr.heap.size wr _ := bl_alloc (Below.refl _ _) (.cells #[.int .i64 1, .int .i64 (m.length : Int)] 3)
        obtain ⟨n1, hn1, hp1⟩ := HPI.out
        have hq := numbersT_any [1, (m.length : Int)] (m.map ofN) (some ⟨wr.heap.size, 0, none⟩) A0 2 c0 tr _ (lit_ints wr [1, (m.length : Int)] 2 rfl (by omega) _ rfl) (by rw [hlm]; exact HR9.out.below (by decide) hbl) (fun d hd => by obtain ⟨x, hx, rfl⟩ := List.mem_map.1 hd; exact ofN_ok x (HM.out x hx)) (by simp) (by omega)
        rw [hn1, hlm] at hq
        refine hq.mono ?_
        clear hq
        rintro e w8 ⟨A1, A2, A3, c1, c2, c3, rfl, hno, g8⟩
        have g8' := bl_trans g8 hbl
        have hb8 := bl_trans g8' hbr
        have HBM := Lib.hid (HBW.out.below (by decide) (bl_trans g8' hb))
        have HN8 := Lib.hid (hno.mono (ok' := tr) fun _ _ _ => trivial)
        have HG8 := Lib.hid (HGW.out.below (bl_trans g8' hb))
        clear hno g8 g8' hbl HR9 hb hbr HBW HGW
        have HP1 := Lib.hid hp1
        clear hp1 HPI
        unfold nodeV nodeW
        go_wp2_with fail
        have hal := bl_alloc (Below.refl w8.heap.size w8) (.cells #[.int .i64 n1.kind, .slice A1 n1.shape.length c1, .slice A2 n1.ints.length c2, .slice A3 n1.decs.length c3] 28)
        have hbl := bl_alloc hal (.cells #[.int .i64 (m.length : Int)] 3)
        have hq := ints_any (some ⟨w8.heap.size + 1, 0, none⟩) 1 [(m.length : Int)] tr _ (by have := lit_ints (w8.alloc (.cells #[.int .i64 n1.kind, .slice A1 n1.shape.length c1, .slice A2 n1.ints.length c2, .slice A3 n1.decs.length c3] 28)) [(m.length : Int)] 1 rfl (by omega) _ rfl; rw [size_al] at this; exact this) HMN.out (HG8.out.below hbl) (by simp)
        refine hq.mono ?_
        clear hq
        rintro e w10 ⟨rfl, g10⟩
        have N10 : Box w10 w8.heap.size #[.int .i64 n1.kind, .slice A1 n1.shape.length c1, .slice A2 n1.ints.length c2, .slice A3 n1.decs.length c3] 28 := (Box.new w8 _ 28).below (bl_trans g10 (bl_alloc (Below.refl _ _) _))
        replace g10 := bl_trans g10 hbl
        have hb10 := bl_trans g10 hb8
        have HN10 := Lib.hid (HN8.out.move (w' := w10) fun b _ hlt => g10.block b hlt)
        have HBN := Lib.hid (HBM.out.below (by decide) g10)
        have HG10 := Lib.hid (HG8.out.below g10)
        clear g10 hal hbl HN8 HBM HG8 hb8
        rw [hint2] at HP1
        generalize intsT [(m.length : Int)] = mt at HP1 htm hint2 ⊢
        clear hint2
        have q1 : ¬ 9223372036854775807 < 2 + mt.length := by omega
        have q2 : ¬ 9223372036854775807 < 2 + mt.length + 3 := by omega
        unfold strV
        go_wp2_with fail
        refine (ints_any _ cb m _ w10 HBN.out HM.out HG10.out (by omega)).mono ?_
        rintro e w11 ⟨rfl, g11⟩
        generalize intsT m = mm at HP1 htm2 ⊢
        have q3 : ¬ 9223372036854775807 < 2 + mt.length + 3 + mm.length := by omega
        have N11 := N10.below g11
        have hb11 := bl_trans g11 hb10
        have HN11 := Lib.hid (HN10.out.move (w' := w11) fun b _ hlt => g11.block b hlt)
        have HG11 := Lib.hid (HG10.out.below g11)
        clear N10 hb10 HN10 HG10 g11 HBN
        unfold strV
        go_wp2_with fail
        have hq := parse_any ([49, 32] ++ mt ++ [226, 141, 180] ++ mm) w11 HG11.out (by simp only [List.length_append, List.length_cons, List.length_nil]; omega)
        rw [HP1.out] at hq
        unfold strV at hq
        rw [← bcat, ← bcat, ← bcat] at hq
        refine hq.mono ?_
        clear hq
        rintro e w12 ⟨v12, rfl, ⟨A12, c12, rfl, hc12, hr12⟩, g12⟩
        have HR12 := Lib.hid (tr_of (by decide) hr12)
        have hb12 := bl_trans g12 hb11
        have N12 := N11.below g12
        have HN12 := Lib.hid (HN11.out.move (w' := w12) fun b _ hlt => g12.block b hlt)
        clear hr12 g12 N11 HN11
        obtain ⟨⟨z0, z1, z2, z3⟩, _⟩ := N12.cells
        simp only [List.length_cons, List.length_nil]
        go_wp2_with fail
        have hl10 := lit_node HN12.out
        have hbl10 : Below w12.heap.size w12 _ := bl_alloc (Below.refl _ _) (.cells #[.int .i64 n1.kind, .slice A1 n1.shape.length c1, .slice A2 n1.ints.length c2, .slice A3 n1.decs.length c3] 28)
        refine (same_lit [n1] 1 rfl A12 (some ⟨w12.heap.size, 0, none⟩) c12 1 _ (HR12.out.below (by decide) hbl10) hl10).mono ?_
        rintro e w13 ⟨rfl, g13⟩
        go_wp2_with fail
        go_ret
        exact ⟨rfl, bl_trans (bl_trans g13 hbl10) hb12⟩
set_option maxHeartbeats 8000000 in
set_option maxRecDepth 100000 in
theorem rows_any (A B : Option Addr) (ca cb : Nat) (l m : List Int) (w : World) (hA : Rd Ly.i64 w tr A l.length l) (hB : Rd Ly.i64 w tr B m.length m) (hca : l.length ≤ ca) (hl : I64s l) (hm : I64s m) (hG : Glob w) :
    Calls Tryz.prog 4 #[.slice A l.length ca, .slice B m.length cb] w fun e w' => e = .returned (.bool true) ∧ Below w.heap.size w w' := by
  by_cases h : 1 ≤ l.length ∧ l.length ≤ 100 ∧ 1 ≤ m.length ∧ m.length ≤ 100
  · exact rows_in A B ca cb l m w hA hB hca hl hm hG h.1 h.2.1 h.2.2.1 h.2.2.2
  · have HS := Lib.hid (small_any w hG)
    have h1 := hA.max; have h2 := hB.max
    clear hA hB hl hm hG
    have hc : l.length < 1 ∨ 100 < l.length ∨ m.length < 1 ∨ 100 < m.length := by omega
    clear h
    generalize l.length = a at *
    generalize m.length = b at *
    rcases hc with h | h | h | h
    all_goals
      go_enter Tryz.func4, Tryz.ntmps4
      go_wp2_with (go_at_call 6; refine HS.out.mono ?_; rintro e w1 ⟨rfl, hb1⟩)
      all_goals (go_ret; exact ⟨rfl, hb1⟩)
end Go.Proofs.T
namespace Go.Proofs.T
open Go.ChangeShapes Go.WideShapes Go.ChangeAt Go.RowKit Go.Lib
open YtafkenbfgmlkkaaGreatDoor
set_option maxRecDepth 100000 in
theorem rows_lifted (os : Os) (started : os.Started) (H : Type) (enc : TypeId × Value → H) :
    ReturnsInHanded {} Tryz.checked os 4 .any (fun w args => (Rows.notationRowsSpec.pre enc Tryz.prog Tryz.f4 Rows.notationRowsRow.domain false w args ∧ laidMetH Tryz.prog laid7 w) ∧ sizedMet enc Tryz.prog Tryz.f4 (OpenSpec.ofChange Rows.notationRowsSpec) false w args)
      (Rows.notationRowsSpec.post enc Tryz.prog Tryz.f4 false true false false) := by
  refine handed_both (C := Tryz.checked) (X := fun w _ => laidMetH Tryz.prog laid7 w) (fun _ _ _ hh h => h.of_heap hh) own started (by kernel_rfl) Tryz.func4
    (ChangeSpec.witness_shaped (enc := enc) (C := Tryz.checked) (os := os) (X := fun w _ => laidMetH Tryz.prog laid7 w) false (World.laidAll Tryz.prog os laid7) #[.slice none 0 0, .slice none 0 0] 8 (World.laidAll_os _ _ _)
      (World.shaped_of_ZipB (by kernel_rfl) (by kernel_rfl)) (by kernel_rfl) (by kernel_rfl) (by kernel_rfl)
      (by rw [MakeChecks.laidMetH_plain _ _ _ (by kernel_rfl)]; exact laidMet_laidAll _ (by kernel_rfl) (by kernel_rfl))) ?_
  intro W base args ds gs before hval0 hW hsh hL
  have hG := glob_of_laid hsh hL
  have hval : ∀ (j : Nat) t v, Tryz.f4.params[j]? = some t → args[j]? = some v → Value.okWide Tryz.prog W .any base t v := hval0
  have hW' := hW
  obtain ⟨p, q, hA0, hV, rfl, _, _⟩ := hW
  have hA : DataW.TrodAll enc Tryz.prog W 0 (fun _ => true) true Tryz.f4.params.toList args.toList ds p := hA0
  rw [Tryz.params4] at hA hval
  obtain ⟨v0, v1, d0, d1, p0, p1, rfl, rfl, rfl, h0, h1⟩ := trodAll_two hA
  obtain ⟨rfl, rfl⟩ := trodVars_none hV
  obtain ⟨a0, len0, cap0, rfl⟩ := okWide_slice Tryz.underlying25 (hval 0 25 v0 rfl rfl)
  obtain ⟨a1, len1, cap1, rfl⟩ := okWide_slice Tryz.underlying25 (hval 1 25 v1 rfl rfl)
  have lt0 : ∀ x ∈ p0, x.block < W.heap.size := by obtain ⟨m, hm⟩ := h0; exact DataW.trod_lt m _ _ _ hm
  have lt1 : ∀ x ∈ p1, x.block < W.heap.size := by obtain ⟨m, hm⟩ := h1; exact DataW.trod_lt m _ _ _ hm
  obtain ⟨xs, ⟨A, c, hcs, hc, hr⟩, hn⟩ : ∃ xs, lInts.K W tr xs (Value.slice a0 len0 cap0).cells.toList ∧ I64s xs := by
    obtain ⟨m, hm⟩ := h0
    exact rdt_ints _ _ _ hm
  obtain ⟨rfl, rfl, rfl⟩ : a0 = A ∧ len0 = xs.length ∧ cap0 = c := by simpa [Value.cells] using hcs
  obtain ⟨ys, ⟨B, e, hds, hd, hs⟩, hm⟩ : ∃ xs, lInts.K W tr xs (Value.slice a1 len1 cap1).cells.toList ∧ I64s xs := by
    obtain ⟨m, hm⟩ := h1
    exact rdt_ints _ _ _ hm
  obtain ⟨rfl, rfl, rfl⟩ : a1 = B ∧ len1 = ys.length ∧ cap1 = e := by simpa [Value.cells] using hds
  clear hA0 hval0
  refine (rows_any a0 a1 cap0 cap1 xs ys W hr hs hc hn hm hG).mono fun e W' ⟨he, bel⟩ => ?_
  subst he
  exact ⟨_, rfl, _, _, _, [], _, [], hW', trodAll_mk1 (shut_bool Tryz.underlying4 _), trodAll_mk2 (Below.trod laidOut (by kernel_rfl) (of_decide_eq_true (by kernel_rfl)) h0 bel lt0) (Below.trod laidOut (by kernel_rfl) (of_decide_eq_true (by kernel_rfl)) h1 bel lt1), rfl, bel.frame _, fun h => by cases h⟩
end Go.Proofs.T
namespace Go.Proofs.YtafkenbfgmlkkaaGreatDoor
open Go Go.Proofs.T
theorem notationRows_said : Rows.NotationRowsSaid :=
  OpenClaim.holds_of_wide 4 Tryz.f4 rfl rfl rfl rfl rfl rfl rfl ⟨rfl, rfl, rfl, rfl, rfl⟩ rfl rfl rfl rfl rfl (by kernel_rfl) Tryz.func4 (by kernel_rfl)
    (of_decide_eq_true (by kernel_rfl)) (by unfold Func.isWrapper; first | (rw [if_pos (by decide +kernel)]; kernel_rfl) | (rw [if_neg (by decide +kernel)]; exact ⟨rfl, rfl⟩))
    (fun os started H enc _ => rows_lifted os started H enc)
theorem notationRows_holds : Rows.NotationRowsCardSaid :=
  Claim7.holds_tied_plain_at .later [] _ _ _ _ notationRows_said (fun _ h => by cases h) (by kernel_rfl) (fun _ h => by cases h) notationRows_row_tie rfl ⟨rfl, rfl⟩ (by kernel_rfl) rfl
    (fun f fn hf hfn => by
      obtain rfl : f = 4 := Option.some.inj ((show Tryz.prog.funcNamed "deckle/decklelaw14.NotationRows" = some 4 by kernel_rfl).symm.trans hf) |>.symm
      obtain rfl : fn = Tryz.f4 := (Option.some.inj (Tryz.func4.symm.trans hfn)).symm
      exact ⟨by kernel_rfl, fun j t ht => by
        rw [Tryz.params4] at ht
        have hm : t ∈ [25, 25] := by simpa using Array.mem_of_getElem? ht
        have hall : ([25, 25].all fun u => !Tryz.prog.wantsStandIn u) = true := by kernel_rfl
        exact (show Tryz.prog.wantsStandIn t = false by simpa using List.all_eq_true.1 hall t hm)⟩)
    (by kernel_rfl)
end Go.Proofs.YtafkenbfgmlkkaaGreatDoor
namespace Go.Proofs.T
open Go.ChangeShapes Go.WideShapes Go.ChangeAt Go.RowKit Go.Lib
open YtafkenbfgmlkkaaGreatDoor
set_option maxRecDepth 100000 in
theorem alone_lifted (os : Os) (started : os.Started) (H : Type) (enc : TypeId × Value → H) :
    ReturnsInHanded {} Tryz.checked os 5 .any (fun w args => (Rows.notationAloneSpec.pre enc Tryz.prog Tryz.f5 Rows.notationAloneRow.domain false w args ∧ laidMetH Tryz.prog laid7 w) ∧ sizedMet enc Tryz.prog Tryz.f5 (OpenSpec.ofChange Rows.notationAloneSpec) false w args)
      (Rows.notationAloneSpec.post enc Tryz.prog Tryz.f5 false true false false) := by
  refine handed_both (C := Tryz.checked) (X := fun w _ => laidMetH Tryz.prog laid7 w) (fun _ _ _ hh h => h.of_heap hh) own started (by kernel_rfl) Tryz.func5
    (ChangeSpec.witness_shaped (enc := enc) (C := Tryz.checked) (os := os) (X := fun w _ => laidMetH Tryz.prog laid7 w) false (World.laidAll Tryz.prog os laid7) #[.agg #[.int .i64 0, .int .i64 0], .int .i64 0] 8 (World.laidAll_os _ _ _)
      (World.shaped_of_ZipB (by kernel_rfl) (by kernel_rfl)) (by kernel_rfl) (by kernel_rfl) (by kernel_rfl)
      (by rw [MakeChecks.laidMetH_plain _ _ _ (by kernel_rfl)]; exact laidMet_laidAll _ (by kernel_rfl) (by kernel_rfl))) ?_
  intro W base args ds gs before hval0 hW hsh hL
  have hG := glob_of_laid hsh hL
  have hval : ∀ (j : Nat) t v, Tryz.f5.params[j]? = some t → args[j]? = some v → Value.okWide Tryz.prog W .any base t v := hval0
  have hW' := hW
  obtain ⟨p, q, hA0, hV, rfl, _, _⟩ := hW
  have hA : DataW.TrodAll enc Tryz.prog W 0 (fun _ => true) true Tryz.f5.params.toList args.toList ds p := hA0
  rw [Tryz.params5] at hA hval
  obtain ⟨v0, v1, d0, d1, p0, p1, rfl, rfl, rfl, h0, h1⟩ := trodAll_two hA
  obtain ⟨rfl, rfl⟩ := trodVars_none hV
  obtain ⟨cs, rfl, _⟩ := okWide_struct Tryz.underlying39 (hval 0 39 v0 rfl rfl)
  have lt0 : ∀ x ∈ p0, x.block < W.heap.size := by obtain ⟨m, hm⟩ := h0; exact DataW.trod_lt m _ _ _ hm
  have lt1 : ∀ x ∈ p1, x.block < W.heap.size := by obtain ⟨m, hm⟩ := h1; exact DataW.trod_lt m _ _ _ hm
  obtain ⟨n, rfl, _, _, hwf⟩ := open_int Tryz.underlying3 (hval 1 3 v1 rfl rfl) h1
  have hn : I64 n := by
    have e1 : IntKind.i64.min = -9223372036854775808 := rfl
    have e2 : IntKind.i64.max = 9223372036854775807 := rfl
    simp [Lit.wf] at hwf
    unfold I64; omega
  obtain ⟨d, ⟨ca, cb, hcs, rfl, rfl⟩, hd⟩ : ∃ d, lDec.K W tr d (Value.agg cs).cells.toList ∧ DecOk d := by
    obtain ⟨m, hm⟩ := h0
    exact rdt_dec _ _ _ hm
  obtain rfl : cs = #[.int .i64 d.man, .int .i64 d.exp] := by
    apply Array.toList_inj.1
    simpa [Value.cells] using hcs
  clear hA0 hval0
  refine (alone_any d n W hd hn hG).mono fun e W' ⟨he, bel⟩ => ?_
  subst he
  exact ⟨_, rfl, _, _, _, [], _, [], hW', trodAll_mk1 (shut_bool Tryz.underlying4 _), trodAll_mk2 (Below.trod laidOut (by kernel_rfl) (of_decide_eq_true (by kernel_rfl)) h0 bel lt0) (Below.trod laidOut (by kernel_rfl) (of_decide_eq_true (by kernel_rfl)) h1 bel lt1), rfl, bel.frame _, fun h => by cases h⟩
end Go.Proofs.T
namespace Go.Proofs.YtafkenbfgmlkkaaGreatDoor
open Go Go.Proofs.T
theorem notationAlone_said : Rows.NotationAloneSaid :=
  OpenClaim.holds_of_wide 5 Tryz.f5 rfl rfl rfl rfl rfl rfl rfl ⟨rfl, rfl, rfl, rfl, rfl⟩ rfl rfl rfl rfl rfl (by kernel_rfl) Tryz.func5 (by kernel_rfl)
    (of_decide_eq_true (by kernel_rfl)) (by unfold Func.isWrapper; first | (rw [if_pos (by decide +kernel)]; kernel_rfl) | (rw [if_neg (by decide +kernel)]; exact ⟨rfl, rfl⟩))
    (fun os started H enc _ => alone_lifted os started H enc)
theorem notationAlone_holds : Rows.NotationAloneCardSaid :=
  Claim7.holds_tied_plain_at .later [] _ _ _ _ notationAlone_said (fun _ h => by cases h) (by kernel_rfl) (fun _ h => by cases h) notationAlone_row_tie rfl ⟨rfl, rfl⟩ (by kernel_rfl) rfl
    (fun f fn hf hfn => by
      obtain rfl : f = 5 := Option.some.inj ((show Tryz.prog.funcNamed "deckle/decklelaw14.NotationAlone" = some 5 by kernel_rfl).symm.trans hf) |>.symm
      obtain rfl : fn = Tryz.f5 := (Option.some.inj (Tryz.func5.symm.trans hfn)).symm
      exact ⟨by kernel_rfl, fun j t ht => by
        rw [Tryz.params5] at ht
        have hm : t ∈ [39, 3] := by simpa using Array.mem_of_getElem? ht
        have hall : ([39, 3].all fun u => !Tryz.prog.wantsStandIn u) = true := by kernel_rfl
        exact (show Tryz.prog.wantsStandIn t = false by simpa using List.all_eq_true.1 hall t hm)⟩)
    (by kernel_rfl)
end Go.Proofs.YtafkenbfgmlkkaaGreatDoor
