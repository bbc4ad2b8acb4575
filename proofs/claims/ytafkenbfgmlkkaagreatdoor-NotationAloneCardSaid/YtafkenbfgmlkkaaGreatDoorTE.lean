/- NotationNests holds for every input: the notation of a tight nest is made of its kids'; under the row's own conditions (the listed package variables as the program lays them). Part 5 of 6: the contracts of the functions that it reaches, and plain lemmas. -/
import Derived.Test.YtafkenbfgmlkkaaGreatDoorTD
import Derived.Lib.OthersKept
import Derived.Deep.RegionLaw
set_option linter.unusedVariables false
set_option linter.unusedSimpArgs false
namespace Go.Proofs.T
open Go.RowKit
/-! ### The parser's frame: nothing that stood there changes, but its own block b -/
structure Bx (b : Nat) (w w' : World) : Prop where
  os : w'.os = w.os
  tape : w'.tape = w.tape
  output : w'.output = w.output
  size : w.heap.size ≤ w'.heap.size
  block : ∀ k, k ≠ b → k < w.heap.size → w'.heap[k]? = w.heap[k]?
section
variable {b : Nat} {w w1 w2 : World}
theorem Bx.refl (b : Nat) (w : World) : Bx b w w := ⟨rfl, rfl, rfl, Nat.le_refl _, fun _ _ _ => rfl⟩
theorem Bx.trans (h : Bx b w w1) (k : Bx b w1 w2) : Bx b w w2 := ⟨k.os.trans h.os, k.tape.trans h.tape, k.output.trans h.output, Nat.le_trans h.size k.size, fun i hi hlt => (k.block i hi (Nat.lt_of_lt_of_le hlt h.size)).trans (h.block i hi hlt)⟩
theorem Bx.of (h : Below w.heap.size w w1) : Bx b w w1 := ⟨h.os, h.tape, h.output, h.size, fun i _ hlt => h.block i hlt⟩
theorem Bx.bl (h : Bx b w w1) (k : Below w1.heap.size w1 w2) : Bx b w w2 := h.trans (Bx.of k)
theorem Bx.new {q : Nat} (h : Bx b w w1) (k : Bx q w1 w2) (hq : w.heap.size ≤ q) : Bx b w w2 :=
  ⟨k.os.trans h.os, k.tape.trans h.tape, k.output.trans h.output, Nat.le_trans h.size k.size, fun i hi hlt => (k.block i (by omega) (Nat.lt_of_lt_of_le hlt h.size)).trans (h.block i hi hlt)⟩
theorem Bx.below {B : Nat} (h : Bx b w w1) (hb : B ≤ b) (hw : B ≤ w.heap.size) : Below B w w1 := ⟨h.os, h.tape, h.output, h.size, fun i hi => h.block i (by omega) (by omega)⟩
theorem Bx.set (h : Bx b w w1) (i : Nat) (v : Value) : Bx b w (w1.setCell ⟨b, i, none⟩ v) :=
  h.trans ⟨rfl, rfl, rfl, by simp [World.setCell], fun k hk _ => heap_setCell_other _ _ _ _ hk⟩
theorem Bx.drew (h : Bx b w w1) : Bx b w w1.drew := ⟨h.os, h.tape, h.output, h.size, h.block⟩
theorem Bx.alloc (h : Bx b w w1) (o : Obj) : Bx b w (w1.alloc o) := h.bl (bl_alloc (Below.refl _ _) o)
theorem Bx.box {k : Nat} {cs : Array Value} {t : TypeId} (h : Bx b w w1) (hx : Box w k cs t) (hk : k ≠ b) : Box w1 k cs t := (h.block k hk hx.lt).trans hx
end
/-- The parser's block. -/
def PBox (w : World) (b : Nat) (p : PS) : Prop := Box w b #[strV p.left, .bool p.ok] 69
/-- Where a method of the parser is called: w0 is the world whose package-level variables are known. -/
structure PIn (w0 : World) (b : Nat) (p : PS) (w : World) : Prop where
  hb0 : Below w0.heap.size w0 w
  hlo : w0.heap.size ≤ b
  box : PBox w b p
theorem PIn.bx {w0 w w' : World} {b : Nat} {p p' : PS} (h : PIn w0 b p w) (hx : Bx b w w') (hp : PBox w' b p') : PIn w0 b p' w' := ⟨h.hb0.trans (hx.below h.hlo h.hb0.size), h.hlo, hp⟩
theorem PBox.below {w w' : World} {b : Nat} {p : PS} (h : PBox w b p) (hb : Below w.heap.size w w') : PBox w' b p := Box.below h hb
theorem PBox.facts {w : World} {b : Nat} {p : PS} (h : PBox w b p) : w.cell? ⟨b, 0, none⟩ = some (strV p.left) ∧ w.cell? ⟨b, 1, none⟩ = some (.bool p.ok) ∧ w.frozen? ⟨b, 0, none⟩ = false ∧ w.frozen? ⟨b, 1, none⟩ = false :=
  ⟨Box.cell h 0, Box.cell h 1, Box.frozen h 0, Box.frozen h 1⟩
theorem PBox.put0 {w : World} {b : Nat} {p : PS} (h : PBox w b p) (l : List UInt8) : PBox (w.setCell ⟨b, 0, none⟩ (strV l)) b ⟨l, p.ok⟩ := Box.set h 0 _
theorem PBox.put1 {w : World} {b : Nat} {p : PS} (h : PBox w b p) (q : Bool) : PBox (w.setCell ⟨b, 1, none⟩ (.bool q)) b ⟨p.left, q⟩ := Box.set h 1 _
theorem PBox.put {w : World} {b : Nat} {p : PS} (h : PBox w b p) (l : List UInt8) (q : Bool) : PBox ((w.setCell ⟨b, 0, none⟩ (strV l)).setCell ⟨b, 1, none⟩ (.bool q)) b ⟨l, q⟩ := (h.put0 l).put1 q
/-- Nodes that a method hands back. -/
def PNodes (ok : Nat → Prop) (r : List Node) (v : Value) (B : Nat) (w' : World) : Prop :=
  ∃ cs, w'.ownsRow B 28 4 v r.length cs ∧ Parts lNode w' (okF ok B v) r cs
def PPost (ok : Nat → Prop) (b : Nat) (r : List Node × PS) (w : World) (e : Ending) (w' : World) : Prop :=
  ∃ v, e = .returned v ∧ PNodes ok r.1 v w.heap.size w' ∧ PBox w' b r.2 ∧ Bx b w w'
theorem Bx.grown {b : Nat} {w W w1 : World} {row : Option Nat} (h : Bx b w W) (hg : W.grownBy w1 row) (hr : ∀ k, row = some k → w.heap.size ≤ k) : Bx b w w1 :=
  ⟨hg.os.trans h.os, hg.tape.trans h.tape, hg.output.trans h.output, Nat.le_trans h.size hg.size, fun k hk hlt => (hg.block k (Nat.lt_of_lt_of_le hlt h.size) (fun e => by have := hr k e.symm; omega)).trans (h.block k hk hlt)⟩
theorem own_bx {b : Nat} {w w1 : World} {base n size : Nat} {e : TypeId} {v : Value} {xs : List Value} (h : w.ownsRow base e size v n xs) (hx : Bx b w w1) (hb : b < base) : w1.ownsRow base e size v n xs := by
  obtain ⟨h1, h2⟩ := h
  refine ⟨h1, ?_⟩
  rcases h2 with h | ⟨g, cap, cur, hv, hbs, hg, hr⟩
  · exact .inl h
  · exact .inr ⟨g, cap, cur, hv, hbs, (hx.block g (by omega) (Array.getElem?_eq_some_iff.1 hg).1).trans hg, hr⟩
theorem parts_bx {b B : Nat} {w w1 : World} {ok : Nat → Prop} {v : Value} {xs : List Node} {cs : List Value} (h : Parts lNode w (okF ok B v) xs cs) (hx : Bx b w w1) (hok : ∀ k, ok k → k ≠ b) (hb : b < B) : Parts lNode w1 (okF ok B v) xs cs :=
  h.move fun k hk hlt => hx.block k (hk.1.elim (hok k) (fun h => by omega)) hlt
/-- The nodes at hand, and those of a method that was called later, laid behind. -/
theorem app_nodes {ok : Nat → Prop} {B B2 : Nat} {W w1 : World} {v v1 : Value} {xs ys : List Node} {cs ds : List Value}
    (hv : ∀ k, v.ownBlock = some k → k < B2) (hp : Parts lNode W (okF ok B v) xs cs) (hq : Parts lNode W (fun k => B2 ≤ k) ys ds) (hB : B ≤ B2)
    (hg : W.grownBy w1 v.ownBlock) (hat : v1.ownBlock = v.ownBlock ∨ ∃ b, v1.ownBlock = some b ∧ W.heap.size ≤ b) : Parts lNode w1 (okF ok B v1) (xs ++ ys) (cs ++ ds) :=
  (hp.append (hq.mono fun b hb' _ => ⟨.inr (Nat.le_trans hB hb'), fun e => by have := hv b e; omega⟩)).grown hg hat
end Go.Proofs.T
namespace Go.Proofs.T
open Go.RowKit
theorem dparse_ok (s : List UInt8) : DecOk (dparseN s).1 := by
  unfold dparseN
  split
  · exact ⟨by unfold I64; simp, by unfold I64; simp⟩
  · split
    · exact ⟨dreadV_bd _, dreadV_bd _⟩
    · exact ⟨by unfold I64; simp, by unfold I64; simp⟩
theorem numRead_ok (s : List UInt8) : DecOk (numReadN s).1 := by
  unfold numReadN
  split
  · exact dparse_ok s
  · exact ofN_ok _ (atoiV_bd _)
theorem own_SlF {w : World} {B : Nat} {v : Value} {n : Nat} {xs : List Dec} (h : w.ownsRow B 39 2 v n (decCells xs)) (hn : xs.length = n) (hm : n ≤ 9223372036854775807) : SlF lDec w B v xs := by
  subst hn
  exact SlF.ofD h hm
set_option maxHeartbeats 4000000 in
set_option maxRecDepth 100000 in
theorem nread_any (s0 : List UInt8) (w : World) (hG : Glob w) (hl : s0.length ≤ 999999999) : Calls Tryz.prog 79 #[strV s0] w fun e w' => ∃ v, e = .returned (.tuple #[v, strV (readN s0).2.1, .bool (readN s0).2.2]) ∧ SlF lDec w' w.heap.size v (readN s0).1 ∧ Below w.heap.size w w' := by
  have HG := Lib.hid hG
  clear hG
  unfold strV
  go_enter Tryz.func79, Tryz.ntmps79
  go_wp2
  go_loopg [0, 2] s0.length (fun gg v0 v2 wr => ∃ (f n : Nat) (s : List UInt8) (acc : List Dec) (v : Value), v0 = .string ⟨s.toArray⟩ ∧ v = v2 ∧ gg = s.length ∧ n + s.length ≤ s0.length ∧ Hid (acc.length = n) ∧ s.length < f ∧ Hid (readNs f s acc = readN s0) ∧ wr.ownsRow w.heap.size 39 2 v n (decCells acc) ∧ Below w.heap.size w wr)
  case atStart => exact ⟨_, 0, s0, [], _, rfl, rfl, rfl, by omega, rfl, Nat.lt_succ_self _, rfl, World.ownsRow_nil _ _ _ _, Below.refl _ _⟩
  case round =>
    obtain ⟨f, n, s, acc, v, rfl, rfl, rfl, hn, HA, hf, HQ, hown, hb⟩ := hrel
    obtain ⟨A0, c0, rfl⟩ := own_form hown
    obtain ⟨f, rfl⟩ : ∃ f', f = f' + 1 := ⟨f - 1, by omega⟩
    have HC1 := Lib.hid (fun W => cut_any s W (by omega))
    have htl : (s.take (cutP s)).length ≤ s.length := by rw [List.length_take]; omega
    have hdl : (s.drop (cutP s)).length ≤ s.length := by rw [List.length_drop]; omega
    have HR := Lib.hid (fun W (hW : Below w.heap.size w W) => numRead_any (s.take (cutP s)) W (HG.out.below hW) (by omega))
    have hst := HQ.out
    unfold readNs at hst
    have hdok := numRead_ok (s.take (cutP s))
    unfold strV at *
    generalize s.take (cutP s) = fst at HC1 HR htl hst hdok
    generalize s.drop (cutP s) = beh at HC1 hst hdl
    generalize numReadN fst = r at HR hst hdok
    obtain ⟨d, q⟩ := r
    unfold decW at HR
    simp only at HR hst hdok
    cases q with
    | false =>
      rw [if_neg (by simp)] at hst
      have HF := Lib.hid hst
      clear hst
      go_wp2_with (first
        | (go_at_call 96; refine (HC1.out _).mono ?_; rintro e w1 ⟨rfl, hb1⟩)
        | (go_at_call 97; refine (HR.out _ (bl_trans hb1 hb)).mono ?_; rintro e w2 ⟨rfl, hb2⟩))
      go_ret3
      exact ⟨_, by rw [← HF.out]; rfl, by rw [← HF.out]; exact SlF.nil _ _ _, bl_alloc (bl_trans hb2 (bl_trans hb1 hb)) _⟩
    | true =>
      rw [if_pos rfl] at hst
      have hcp := fun W => Tryz.strings_CutPrefix ⟨beh.toArray⟩ ⟨#[32]⟩ W
      simp only [List.toList_toArray] at hcp
      have hacl : Hid ((acc ++ [d]).length = n + 1) := by show _ = _; rw [List.length_append, HA.out]; rfl
      by_cases hp : Lib.hasPrefix beh [32] = true
      · have ht : Lib.trimPrefix beh [32] = beh.drop 1 := by unfold Lib.trimPrefix; rw [if_pos hp]; rfl
        have hbl : 0 < beh.length := by
          cases beh with
          | nil => simp [Lib.hasPrefix, List.isPrefixOf] at hp
          | cons _ _ => simp
        rw [hp, ht] at hcp
        have HCP := Lib.hid hcp
        have hnl : (beh.drop 1).length < s.length := by rw [List.length_drop]; omega
        have HC2 := Lib.hid (fun W => cut_any (beh.drop 1) W (by omega))
        generalize beh.drop 1 = nxt at HC2 HCP hst hnl
        by_cases h0 : 0 < cutP nxt
        · rw [if_pos ⟨hp, h0⟩] at hst
          have k1 : (nxt.take (cutP nxt) == []) = false := by
            rw [beq_eq_false_iff_ne]
            intro e
            rcases List.take_eq_nil_iff.1 e with e | e
            · omega
            · subst e; simp [cutP] at h0
          have HF := Lib.hid hst
          unfold strV at HC2
          generalize nxt.take (cutP nxt) = pc at HC2 k1
          generalize nxt.drop (cutP nxt) = pb at HC2
          clear hst hcp hp ht hbl h0
          go_wp2_with (first
            | (go_at_call 96; have HH := HC1; clear HC1; refine (HH.out _).mono ?_; rintro e w1 ⟨rfl, hb1⟩)
            | (go_at_call 97; refine (HR.out _ (bl_trans hb1 hb)).mono ?_; rintro e w2 ⟨rfl, hb2⟩; have hb2' := bl_trans hb2 (bl_trans hb1 hb))
            | (at_builtin; refine app_one (w0 := w) w.heap.size rfl (.tmp 25) (.tmp 27) 26 39 (.agg #[.int .i64 0, .int .i64 0]) 2 16 rfl Tryz.underlying26 info39 rfl (by decide) _ n (decCells acc) [.int .i64 d.man, .int .i64 d.exp] rfl rfl (by go_simp) (one_two _ _) (own_below (own_below (own_below hown hb1) hb2) (bl_alloc (Below.refl _ _) _)) (bl_alloc hb2' _) (bl_alloc hb2' _).size (by simp only [maxLen]; omega) (by omega) ?_; intro v1 w3 hown3 hb3 hg3 _)
            | (go_at_call 78; refine (HCP.out _).mono ?_; rintro e w4 ⟨rfl, rfl⟩)
            | (go_at_call 96; refine (HC2.out _).mono ?_; rintro e w5 ⟨rfl, hb5⟩))
          go_roundg nxt.length
          case measure => omega
          case rel => exact ⟨f, n + 1, nxt, acc ++ [d], v1, rfl, rfl, rfl, by omega, hacl, by omega, HF.out, by rw [decCells_app]; exact own_below hown3 hb5, bl_trans hb5 hb3⟩
        · rw [if_neg (fun h => h0 h.2)] at hst
          have k1 : (nxt.take (cutP nxt) == []) = true := by
            rw [show cutP nxt = 0 by omega]; rfl
          have HF := Lib.hid hst
          unfold strV at HC2
          generalize nxt.take (cutP nxt) = pc at HC2 k1
          generalize nxt.drop (cutP nxt) = pb at HC2
          clear hst hcp hp ht hbl h0
          go_wp2_with (first
            | (go_at_call 96; have HH := HC1; clear HC1; refine (HH.out _).mono ?_; rintro e w1 ⟨rfl, hb1⟩)
            | (go_at_call 97; refine (HR.out _ (bl_trans hb1 hb)).mono ?_; rintro e w2 ⟨rfl, hb2⟩; have hb2' := bl_trans hb2 (bl_trans hb1 hb))
            | (at_builtin; refine app_one (w0 := w) w.heap.size rfl (.tmp 25) (.tmp 27) 26 39 (.agg #[.int .i64 0, .int .i64 0]) 2 16 rfl Tryz.underlying26 info39 rfl (by decide) _ n (decCells acc) [.int .i64 d.man, .int .i64 d.exp] rfl rfl (by go_simp) (one_two _ _) (own_below (own_below (own_below hown hb1) hb2) (bl_alloc (Below.refl _ _) _)) (bl_alloc hb2' _) (bl_alloc hb2' _).size (by simp only [maxLen]; omega) (by omega) ?_; intro v1 w3 hown3 hb3 hg3 _)
            | (go_at_call 78; refine (HCP.out _).mono ?_; rintro e w4 ⟨rfl, rfl⟩)
            | (go_at_call 96; refine (HC2.out _).mono ?_; rintro e w5 ⟨rfl, hb5⟩))
          go_ret3
          exact ⟨_, by rw [← HF.out]; rfl, by rw [← HF.out]; exact own_SlF (by rw [decCells_app]; exact own_below hown3 hb5) hacl.out (by omega), bl_trans hb5 hb3⟩
      · have hp := eq_false_of_ne_true hp
        have ht : Lib.trimPrefix beh [32] = beh := by unfold Lib.trimPrefix; rw [if_neg (by rw [hp]; simp)]
        rw [hp, ht] at hcp
        rw [if_neg (fun h => by rw [hp] at h; exact absurd h.1 (by simp))] at hst
        have HCP := Lib.hid hcp
        have HF := Lib.hid hst
        have HC2 := Lib.hid (fun W => cut_any beh W (by omega))
        unfold strV at HC2
        generalize beh.take (cutP beh) = pc at HC2
        generalize beh.drop (cutP beh) = pb at HC2
        clear hst hcp hp ht
        go_wp2_with (first
          | (go_at_call 96; have HH := HC1; clear HC1; refine (HH.out _).mono ?_; rintro e w1 ⟨rfl, hb1⟩)
          | (go_at_call 97; refine (HR.out _ (bl_trans hb1 hb)).mono ?_; rintro e w2 ⟨rfl, hb2⟩; have hb2' := bl_trans hb2 (bl_trans hb1 hb))
          | (at_builtin; refine app_one (w0 := w) w.heap.size rfl (.tmp 25) (.tmp 27) 26 39 (.agg #[.int .i64 0, .int .i64 0]) 2 16 rfl Tryz.underlying26 info39 rfl (by decide) _ n (decCells acc) [.int .i64 d.man, .int .i64 d.exp] rfl rfl (by go_simp) (one_two _ _) (own_below (own_below (own_below hown hb1) hb2) (bl_alloc (Below.refl _ _) _)) (bl_alloc hb2' _) (bl_alloc hb2' _).size (by simp only [maxLen]; omega) (by omega) ?_; intro v1 w3 hown3 hb3 hg3 _)
          | (go_at_call 78; refine (HCP.out _).mono ?_; rintro e w4 ⟨rfl, rfl⟩)
          | (go_at_call 96; refine (HC2.out _).mono ?_; rintro e w5 ⟨rfl, hb5⟩))
        go_ret3
        exact ⟨_, by rw [← HF.out]; rfl, by rw [← HF.out]; exact own_SlF (by rw [decCells_app]; exact own_below hown3 hb5) hacl.out (by omega), bl_trans hb5 hb3⟩
end Go.Proofs.T
namespace Go.Proofs.T
open Go.RowKit
def endsV (s : List UInt8) : Int := match endsL s with
  | none => -1
  | some k => k
theorem endsL_skip {s : List UInt8} {k : Nat} (h : k < s.length) (h1 : s[k] ≠ 39) : endsL (s.drop k) = (endsL (s.drop (k + 1))).map (· + 1) := by
  rw [List.drop_eq_getElem_cons h]
  cases hr : s.drop (k + 1) with
  | nil => simp [endsL, h1]
  | cons d r => rw [endsL, if_neg h1]
theorem endsL_last {s : List UInt8} {k : Nat} (h : k < s.length) (h1 : s[k] = 39) (h2 : k + 1 = s.length) : endsL (s.drop k) = some 0 := by
  rw [List.drop_eq_getElem_cons h, List.drop_eq_nil_of_le (by omega)]
  simp [endsL, h1]
theorem endsL_one {s : List UInt8} {k : Nat} (h : k + 1 < s.length) (h1 : s[k] = 39) (h2 : s[k + 1] ≠ 39) : endsL (s.drop k) = some 0 := by
  rw [List.drop_eq_getElem_cons (by omega : k < s.length), List.drop_eq_getElem_cons h, endsL, if_pos h1, if_neg h2]
theorem endsL_two {s : List UInt8} {k : Nat} (h : k + 1 < s.length) (h1 : s[k] = 39) (h2 : s[k + 1] = 39) : endsL (s.drop k) = (endsL (s.drop (k + 2))).map (· + 2) := by
  rw [List.drop_eq_getElem_cons (by omega : k < s.length), List.drop_eq_getElem_cons h, endsL, if_pos h1, if_pos h2]
theorem map_add (o : Option Nat) (a b : Nat) : (o.map (· + a)).map (· + b) = o.map (· + (b + a)) := by
  cases o <;> simp; omega
theorem ne39 (c : UInt8) : ((c.toNat : Int) != 39) = (c != 39) := by
  rw [Bool.eq_iff_iff]
  simp only [bne_iff_ne, ne_eq]
  constructor
  · intro h e; subst e; exact h rfl
  · intro h e; exact h (UInt8.toNat_inj.1 (by simpa using (by omega : c.toNat = 39)))
set_option maxHeartbeats 4000000 in
set_option maxRecDepth 100000 in
theorem ends_any (s : List UInt8) (w : World) (hl : s.length ≤ 1000000000) : Calls Tryz.prog 99 #[strV s] w fun e w' => e = .returned (.int .i64 (endsV s)) ∧ Below w.heap.size w w' := by
  unfold strV
  go_enter Tryz.func99, Tryz.ntmps99
  go_wp2
  go_loopg [3] s.length (fun gg i wr => ∃ k : Nat, k ≤ s.length ∧ gg = s.length - k ∧ i = .int .i64 k ∧ Hid (endsL s = (endsL (s.drop k)).map (· + k)) ∧ Below w.heap.size w wr)
  case atStart => exact ⟨0, by omega, by omega, rfl, by simp [Hid], Below.refl _ _⟩
  case round =>
    obtain ⟨k, hk, rfl, rfl, hp, hb⟩ := hrel
    by_cases hlt : k < s.length
    · have ht := ne39 s[k]
      by_cases h1 : s[k] = 39
      · have k1 : ((((⟨s.toArray⟩ : ByteArray)[k]'(by simpa [ByteArray.size] using hlt)).toNat : Int) != (((⟨#[39]⟩ : ByteArray)[0]'(by decide)).toNat : Int)) = false := by show ((s[k].toNat : Int) != 39) = false; rw [ht]; simp [h1]
        by_cases h2 : k + 1 = s.length
        · have hfin : Hid (endsV s = k) := by show _ = _; unfold endsV; rw [hp.out, endsL_last hlt h1 h2]; simp
          have k2 : ((k : Int) + 1 == (s.length : Int)) = true := by simpa using (by omega : (k : Int) + 1 = s.length)
          clear ht h1
          go_wp2
          go_quiet (fail)
          go_wp2
          go_quiet (fail)
          go_wp2
          go_ret
          exact ⟨by rw [hfin.out]; rfl, (by first | exact bl_drewN hb _ | exact bl_drewN (bl_drewN hb _) _)⟩
        · have h3 : k + 1 < s.length := by omega
          have ht2 := ne39 s[k + 1]
          have k2 : ((k : Int) + 1 == (s.length : Int)) = false := by simpa using (by omega : ¬ (k : Int) + 1 = s.length)
          by_cases h4 : s[k + 1] = 39
          · have k3 : ((((⟨s.toArray⟩ : ByteArray)[k + 1]'(by simpa [ByteArray.size] using h3)).toNat : Int) != (((⟨#[39]⟩ : ByteArray)[0]'(by decide)).toNat : Int)) = false := by show ((s[k + 1].toNat : Int) != 39) = false; rw [ht2]; simp [h4]
            have hst : Hid (endsL s = (endsL (s.drop (k + 2))).map (· + (k + 2))) := by show _ = _; rw [hp.out, endsL_two h3 h1 h4, map_add]
            clear ht h1 ht2 h4
            go_wp2
            go_quiet (fail)
            go_wp2
            have q0 : (k : Int) + 1 < s.length := by omega
            have q1 : IntKind.i64.wrap ((k : Int) + 1) = (k : Int) + 1 := IntWalk.i64_in _ (by omega)
            have q2 : (0 : Int) ≤ (k : Int) + 1 := by omega
            have q3 : ((k : Int) + 1).toNat = k + 1 := by omega
            go_quiet (fail)
            clear q1
            go_wp2
            go_roundg (s.length - (k + 2))
            case measure => omega
            case rel => exact ⟨k + 2, by omega, rfl, by go_num, hst, (by first | exact bl_drewN hb _ | exact bl_drewN (bl_drewN hb _) _)⟩
          · have k3 : ((((⟨s.toArray⟩ : ByteArray)[k + 1]'(by simpa [ByteArray.size] using h3)).toNat : Int) != (((⟨#[39]⟩ : ByteArray)[0]'(by decide)).toNat : Int)) = true := by show ((s[k + 1].toNat : Int) != 39) = true; rw [ht2]; simpa using h4
            have hfin : Hid (endsV s = k) := by show _ = _; unfold endsV; rw [hp.out, endsL_one h3 h1 h4]; simp
            clear ht h1 ht2 h4
            go_wp2
            go_quiet (fail)
            go_wp2
            have q0 : (k : Int) + 1 < s.length := by omega
            have q1 : IntKind.i64.wrap ((k : Int) + 1) = (k : Int) + 1 := IntWalk.i64_in _ (by omega)
            have q2 : (0 : Int) ≤ (k : Int) + 1 := by omega
            have q3 : ((k : Int) + 1).toNat = k + 1 := by omega
            go_quiet (fail)
            clear q1
            go_wp2
            go_ret
            exact ⟨by rw [hfin.out]; rfl, (by first | exact bl_drewN hb _ | exact bl_drewN (bl_drewN hb _) _)⟩
      · have k1 : ((((⟨s.toArray⟩ : ByteArray)[k]'(by simpa [ByteArray.size] using hlt)).toNat : Int) != (((⟨#[39]⟩ : ByteArray)[0]'(by decide)).toNat : Int)) = true := by show ((s[k].toNat : Int) != 39) = true; rw [ht]; simpa using h1
        have hst : Hid (endsL s = (endsL (s.drop (k + 1))).map (· + (k + 1))) := by show _ = _; rw [hp.out, endsL_skip hlt h1, map_add]
        clear ht h1
        go_wp2
        go_quiet (fail)
        go_wp2
        go_roundg (s.length - (k + 1))
        case measure => omega
        case rel => exact ⟨k + 1, by omega, rfl, by go_num, hst, bl_drewN hb _⟩
    · have hkn : k = s.length := by omega
      have hfin : Hid (endsV s = -1) := by show _ = _; unfold endsV; rw [hp.out, hkn, List.drop_length]; rfl
      go_wp2
      go_ret
      exact ⟨by rw [hfin.out]; rfl, hb⟩
end Go.Proofs.T
namespace Go.Proofs.T
open Go.RowKit
theorem valid_any (s : List UInt8) (w : World) (hG : Glob w) (hl : s.length ≤ 1000000000) : Calls Tryz.prog 100 #[strV s] w fun e w' => e = .returned (.bool (Lib.validD s)) ∧ Below w.heap.size w w' :=
  Any.utf8_ValidString Tryz.laysValid ⟨s.toArray⟩ w (by simp [ByteArray.size]; omega) hG.u8
theorem replAll_any (s : List UInt8) (w : World) (hG : Glob w) (hl : s.length ≤ 1000000000) : Calls Tryz.prog 101 #[strV s, .string ⟨#[39, 39]⟩, .string ⟨#[39]⟩] w fun e w' => e = .returned (strV (Lib.replaceAll s [39, 39] [39])) ∧ Below w.heap.size w w' := by
  obtain ⟨m, hm⟩ := hG.mx
  have hs : (⟨s.toArray⟩ : ByteArray).size = s.length := by simp [ByteArray.size]
  have hc : Lib.countB ⟨s.toArray⟩ ⟨#[39, 39]⟩ ≤ s.length + 1 := Lib.count_le s [39, 39]
  exact Tryz.strings_ReplaceAll ⟨s.toArray⟩ ⟨#[39, 39]⟩ ⟨#[39]⟩ m w (by rw [hs]; omega) hm (by decide) (by rw [hs]; show _ + Lib.countB ⟨s.toArray⟩ ⟨#[39, 39]⟩ * 1 ≤ _; omega)
end Go.Proofs.T
namespace Go.Proofs.T
open Go.RowKit
theorem endsL_lt : ∀ (n : Nat) (s : List UInt8) (e : Nat), s.length ≤ n → endsL s = some e → e < s.length
  | _, [], e, _, h => by simp [endsL] at h
  | _, [c], e, _, h => by
    unfold endsL at h
    split at h
    · injection h with h; subst h; simp
    · cases h
  | 0, _ :: _ :: _, _, hn, _ => by simp at hn
  | n + 1, c :: d :: r, e, hn, h => by
    simp only [List.length_cons] at hn
    unfold endsL at h
    split at h
    · split at h
      · obtain ⟨q, hq, rfl⟩ := Option.map_eq_some_iff.1 h
        have := endsL_lt n r q (by omega) hq
        simp only [List.length_cons]; omega
      · injection h with h; subst h; simp
    · obtain ⟨q, hq, rfl⟩ := Option.map_eq_some_iff.1 h
      have := endsL_lt n (d :: r) q (by simp only [List.length_cons]; omega) hq
      simp only [List.length_cons] at this ⊢; omega
theorem replK_len (s : List UInt8) : ∀ k, (Lib.replaceK [39, 39] [39] k s).length ≤ s.length + k := by
  intro k
  induction k generalizing s with
  | zero => simp [Lib.replaceK]
  | succ k ih =>
    have hg := Lib.index_ge s [39, 39]
    by_cases h : Lib.index s [39, 39] = -1
    · simp [Lib.replaceK, h]
    · have hi : Lib.index s [39, 39] = ((Lib.index s [39, 39]).toNat : Int) := by omega
      rw [Lib.replaceK_hit _ _ _ _ _ hi, show ([39, 39] : List UInt8).length = 2 from rfl]
      have := ih (s.drop ((Lib.index s [39, 39]).toNat + 2))
      simp only [List.length_append, List.length_take, List.length_drop, List.length_cons, List.length_nil] at this ⊢
      omega
theorem replAll_len (s : List UInt8) : (Lib.replaceAll s [39, 39] [39]).length ≤ 2 * s.length + 1 := by
  have hc := Lib.count_le s [39, 39]
  unfold Lib.replaceAll Lib.replace
  rw [if_neg (by decide)]
  have := replK_len s (Lib.replaceNum s [39, 39] (-1))
  have h2 : Lib.replaceNum s [39, 39] (-1) = Lib.count s [39, 39] := by unfold Lib.replaceNum; rw [if_pos (by simp)]
  rw [h2] at this ⊢
  omega
theorem runesL_step {f : Nat} {s : List UInt8} (h : s ≠ []) : runesL (f + 1) s = ((Lib.decodeL s).1 : Int) :: runesL f (s.drop (Lib.decodeL s).2) := by rw [runesL, if_neg h]
theorem runesL_nil (f : Nat) : runesL f [] = [] := by cases f <;> simp [runesL]
theorem own_iterAt {w : World} {base n size k : Nat} {e : TypeId} {v : Value} {xs : List Value} {s : ByteArray} {p : Nat} (h : w.ownsRow base e size v n xs) (hk : w.heap[k]? = some (.stringIter s p)) (p' : Nat) : (w.iterAt k s p').ownsRow base e size v n xs := by
  obtain ⟨h1, h2⟩ := h
  refine ⟨h1, ?_⟩
  rcases h2 with h | ⟨g, cap, cur, hv, hb, hg, hr⟩
  · exact .inl h
  · refine .inr ⟨g, cap, cur, hv, hb, ?_, hr⟩
    rw [Lib.iterAt_other _ _ _ _ _ (fun e => by subst e; rw [hk] at hg; cases hg)]
    exact hg
theorem own_noIter {w : World} {base n size k : Nat} {e : TypeId} {v : Value} {xs : List Value} {s : ByteArray} {p : Nat} (h : w.ownsRow base e size v n xs) (hk : w.heap[k]? = some (.stringIter s p)) : v.ownBlock ≠ some k := fun e1 => by
  rcases h.2 with ⟨rfl, _⟩ | ⟨g, cap, cur, rfl, hb, hg, hr⟩
  · simp [Value.ownBlock] at e1
  · have : g = k := by simpa [Value.ownBlock] using e1
    subst this
    rw [hk] at hg; cases hg
theorem below_iter (w : World) (s : ByteArray) (p : Nat) : Below w.heap.size w (w.iter s p) := bl_alloc (Below.refl _ _) (.stringIter s p)
set_option maxHeartbeats 4000000 in
set_option maxRecDepth 100000 in
theorem quoteRead_any (s : List UInt8) (w : World) (hG : Glob w) (hl : s.length ≤ 100000000) : Calls Tryz.prog 81 #[strV s] w fun e w' => ∃ v, e = .returned (.tuple #[v, strV (quoteReadN s).2.1, .bool (quoteReadN s).2.2]) ∧ SlF Ly.i64 w' w.heap.size v (quoteReadN s).1 ∧ Below w.heap.size w w' := by
  have HG := Lib.hid hG
  clear hG
  have hcp := fun W => Tryz.strings_CutPrefix ⟨s.toArray⟩ ⟨#[39]⟩ W
  simp only [List.toList_toArray] at hcp
  replace hcp := fun W => (hcp W).mono (fun e w' h => (⟨h.1, h.2.symm⟩ : _ ∧ W = w'))
  unfold quoteReadN
  by_cases hp : Lib.hasPrefix s [39] = true
  · have ht : Lib.trimPrefix s [39] = s.drop 1 := by unfold Lib.trimPrefix; rw [if_pos hp]; rfl
    rw [hp, ht] at hcp
    have HCP := Lib.hid hcp
    rw [if_pos hp]
    have hrl : (s.drop 1).length ≤ 100000000 := by rw [List.length_drop]; omega
    clear hcp ht hp hl
    generalize s.drop 1 = r at *
    have HE := Lib.hid (fun W => ends_any r W (by omega))
    unfold endsV at HE
    have hlt := endsL_lt r.length r
    generalize endsL r = o at *
    cases o with
    | none =>
      simp only at HE ⊢
      clear hlt
      unfold strV at *
      go_enter Tryz.func81, Tryz.ntmps81
      go_wp2_with (first
        | (go_at_call 78; refine (HCP.out _).mono ?_; rintro e w1 ⟨rfl, rfl⟩)
        | (go_at_call 99; refine (HE.out _).mono ?_; rintro e w2 ⟨rfl, hb2⟩))
      go_ret3
      exact ⟨_, rfl, SlF.nil _ _ _, hb2⟩
    | some e0 =>
      have he := hlt e0 (Nat.le_refl _) rfl
      simp only at HE ⊢
      have HV := Lib.hid (fun W (hW : Below w.heap.size w W) => valid_any (r.take e0) W (HG.out.below hW) (by rw [List.length_take]; omega))
      have HRA := Lib.hid (fun W (hW : Below w.heap.size w W) => replAll_any (r.take e0) W (HG.out.below hW) (by rw [List.length_take]; omega))
      have hTl := replAll_len (r.take e0)
      have htt := bt r e0
      have hte : (r.take e0).length ≤ 100000000 := by rw [List.length_take]; omega
      generalize r.take e0 = t at *
      generalize Lib.replaceAll t [39, 39] [39] = T at *
      generalize Lib.validD t = q at *
      clear hlt
      unfold strV at *
      cases q with
      | false =>
        simp only [Bool.false_eq_true, if_false]
        go_enter Tryz.func81, Tryz.ntmps81
        go_wp2_with (first
          | (go_at_call 78; refine (HCP.out _).mono ?_; rintro e w1 ⟨rfl, rfl⟩)
          | (go_at_call 99; refine (HE.out _).mono ?_; rintro e w2 ⟨rfl, hb2⟩)
          | (go_at_call 100; refine (HV.out _ hb2).mono ?_; rintro e w3 ⟨rfl, hb3⟩))
        go_ret3
        exact ⟨_, rfl, SlF.nil _ _ _, bl_trans hb3 hb2⟩
      | true =>
        simp only [if_true]
        go_enter Tryz.func81, Tryz.ntmps81
        go_wp2_with (first
          | (go_at_call 78; refine (HCP.out _).mono ?_; rintro e w1 ⟨rfl, rfl⟩)
          | (go_at_call 99; refine (HE.out _).mono ?_; rintro e w2 ⟨rfl, hb2⟩)
          | (go_at_call 100; refine (HV.out _ hb2).mono ?_; rintro e w3 ⟨rfl, hb3⟩)
          | (go_at_call 101; refine (HRA.out _ (bl_trans hb3 hb2)).mono ?_; rintro e w4 ⟨rfl, hb4⟩))
        have hw4 : w.heap.size ≤ w4.heap.size := (bl_trans hb4 (bl_trans hb3 hb2)).size
        have hb5 := bl_trans (below_iter w4 ⟨T.toArray⟩ 0) (bl_trans hb4 (bl_trans hb3 hb2))
        go_loopg [2] T.length (fun gg v2 wr => ∃ (pos n : Nat) (done : List Int) (v : Value), v = v2 ∧ gg = T.length - pos ∧ Hid (done.length = n) ∧ n ≤ pos ∧ pos ≤ T.length ∧ Hid (∃ f, done ++ runesL f (T.drop pos) = runesL T.length T ∧ T.length ≤ pos + f) ∧ wr.heap[w4.heap.size]? = some (.stringIter ⟨T.toArray⟩ pos) ∧ wr.ownsRow w.heap.size 3 1 v n (done.map (Value.int .i64)) ∧ Below w.heap.size w wr)
        case atStart => exact ⟨0, 0, [], _, rfl, by omega, rfl, by omega, by omega, ⟨T.length, rfl, by omega⟩, World.iter_heap _ _ _, World.ownsRow_nil _ _ _ _, hb5⟩
        case round =>
          clear hb2 hb3 hb4 hb5
          obtain ⟨pos, n, done, v, rfl, rfl, HD, hn, hpos, HQ, hit, hown, hb⟩ := hrel
          obtain ⟨A0, c0, rfl⟩ := own_form hown
          have hsz : (⟨T.toArray⟩ : ByteArray).size = T.length := by simp [ByteArray.size]
          have hitl : w4.heap.size < wr.heap.size := (Array.getElem?_eq_some_iff.1 hit).1
          by_cases hlt : pos < T.length
          · have hnx : ∀ ty, (Instr.next (.pointer (some ⟨w4.heap.size, 0, none⟩)) true ty).run Tryz.prog wr = _ := fun ty => Lib.run_next_any_at wr w4.heap.size ⟨T.toArray⟩ pos ty hit (by rw [hsz]; exact hlt)
            have hwd := Lib.width_pos ⟨T.toArray⟩ pos
            have hru := Lib.rune_le ⟨T.toArray⟩ pos
            have hdd : Lib.decodeL (T.drop pos) = Utf8.decode ⟨T.toArray⟩ pos := Lib.decodeL_drop ⟨T.toArray⟩ pos
            have hne : T.drop pos ≠ [] := by
              intro e
              have := congrArg List.length e
              rw [List.length_drop, List.length_nil] at this
              omega
            have hwl := Lib.decodeL_le (T.drop pos) hne
            have hst : ∀ f, T.length ≤ pos + f → done ++ runesL f (T.drop pos) = runesL T.length T → ∃ f', (done ++ [((Lib.decodeL (T.drop pos)).1 : Int)]) ++ runesL f' (T.drop (pos + (Lib.decodeL (T.drop pos)).2)) = runesL T.length T ∧ T.length ≤ pos + (Lib.decodeL (T.drop pos)).2 + f' := fun f hf he => by
              obtain ⟨f, rfl⟩ : ∃ f', f = f' + 1 := ⟨f - 1, by omega⟩
              refine ⟨f, ?_, by have := Lib.decodeL_width (T.drop pos); omega⟩
              rw [← he, runesL_step hne, List.drop_drop]
              simp
            have hon := own_iterAt hown hit
            have hno := own_noIter hown hit
            have hih := Lib.iterAt_heap wr w4.heap.size ⟨T.toArray⟩ pos
            rw [hdd] at hwl hst
            rw [List.length_drop] at hwl
            have HST : Hid (∃ f', (done ++ [((Utf8.decode ⟨T.toArray⟩ pos).1 : Int)]) ++ runesL f' (T.drop (pos + (Utf8.decode ⟨T.toArray⟩ pos).2)) = runesL T.length T ∧ T.length ≤ pos + (Utf8.decode ⟨T.toArray⟩ pos).2 + f') := by
              obtain ⟨f, h1, h2⟩ := HQ.out
              exact hst f h2 h1
            clear hst hdd hne
            generalize Utf8.decode ⟨T.toArray⟩ pos = cw at *
            obtain ⟨c, wd⟩ := cw
            simp only at hwd hru hwl HST hnx
            have HON := Lib.hid (hon (pos + wd))
            have HIH := Lib.hid (hih (pos + wd) hit)
            have HBB := Lib.hid (Lib.below_iterAt hb hw4 ⟨T.toArray⟩ (pos + wd))
            clear hon hih
            have hitl2 : w4.heap.size < (wr.iterAt w4.heap.size ⟨T.toArray⟩ (pos + wd)).heap.size := by rw [Lib.iterAt_size]; exact hitl
            go_wp2_with (at_builtin; refine app_one (w0 := w) w.heap.size rfl (.tmp 36) (.tmp 39) 25 3 (.int .i64 0) 1 8 rfl Tryz.underlying25 info3 rfl (by decide) _ n (done.map (Value.int .i64)) [.int .i64 c] rfl rfl (by go_simp) (one_int _) HON.out HBB.out HBB.out.size (by simp only [maxLen]; omega) (by omega) ?_; intro v1 w5 hown5 hb5 hg5 _)
            go_roundg (T.length - (pos + wd))
            case measure => omega
            case rel => exact ⟨pos + wd, n + 1, done ++ [(c : Int)], v1, rfl, rfl, by rw [List.length_append, HD.out]; rfl, by omega, by omega, HST.out, (hg5.block _ hitl2 (fun e => hno e.symm)).trans HIH.out, by rw [List.map_append]; exact hown5, hb5⟩
          · have hnx : ∀ ty, (Instr.next (.pointer (some ⟨w4.heap.size, 0, none⟩)) true ty).run Tryz.prog wr = _ := fun ty => Lib.run_next_end_at wr w4.heap.size ⟨T.toArray⟩ pos ty hit (by rw [hsz]; exact hlt)
            have hdone : Hid (done = runesL T.length T) := by
              obtain ⟨f, h1, h2⟩ := HQ.out
              rw [List.drop_eq_nil_of_le (by omega), runesL_nil, List.append_nil] at h1
              exact h1
            have hbx := bx r (e0 + 1) r.length (by omega) rfl
            have hrl2 : (⟨r.toArray⟩ : ByteArray).size = r.length := by simp [ByteArray.size]
            have hnl : n ≤ 300000000 := by omega
            clear hitl
            go_wp2
            have hb' : Below wr.heap.size wr wr.drew := bl_drew (Below.refl _ _)
            have q1 : IntKind.i64.wrap ((e0 : Int) + 1) = (e0 : Int) + 1 := IntWalk.i64_in _ (by omega)
            have q2 : (0 : Int) ≤ (e0 : Int) + 1 := by omega
            have q3 : ((e0 : Int) + 1).toNat = e0 + 1 := by omega
            have q4 : (e0 : Int) + 1 ≤ r.length := by omega
            go_region_held3 (fun w' => Below wr.heap.size wr w') (with_reducible assumption) (fail)
            go_wp2
            go_ret3
            exact ⟨_, rfl, by rw [← hdone.out]; exact SlF.ofI (by rw [HD.out]; exact own_below hown hb') (by rw [HD.out]; omega), bl_trans hb' hb⟩
  · have hp := eq_false_of_ne_true hp
    have ht : Lib.trimPrefix s [39] = s := by unfold Lib.trimPrefix; rw [if_neg (by rw [hp]; simp)]
    rw [hp, ht] at hcp
    have HCP := Lib.hid hcp
    rw [if_neg (by rw [hp]; simp)]
    have HE := Lib.hid (fun W => ends_any s W (by omega))
    generalize endsV s = o at HE
    clear hcp ht hp
    unfold strV at *
    go_enter Tryz.func81, Tryz.ntmps81
    go_wp2_with (first
      | (go_at_call 78; refine (HCP.out _).mono ?_; rintro e w1 ⟨rfl, rfl⟩)
      | (go_at_call 99; refine (HE.out _).mono ?_; rintro e w2 ⟨rfl, hb2⟩))
    go_ret3
    exact ⟨_, rfl, SlF.nil _ _ _, hb2⟩
end Go.Proofs.T
namespace Go.Proofs.T
open Go.RowKit
set_option maxHeartbeats 1000000 in
theorem skip_any (b : Nat) (p : PS) (t : List UInt8) (w : World) (h : PBox w b p) :
    Calls Tryz.prog 57 #[.pointer (some ⟨b, 0, none⟩), strV t] w fun e w' => e = .returned (.bool (skipP p t).1) ∧ PBox w' b (skipP p t).2 ∧ Bx b w w' := by
  obtain ⟨left, ok⟩ := p
  have hcp := Tryz.strings_CutPrefix ⟨left.toArray⟩ ⟨t.toArray⟩ w
  simp only [List.toList_toArray] at hcp
  replace hcp := hcp.mono (fun e w' h => (⟨h.1, h.2.symm⟩ : _ ∧ w = w'))
  obtain ⟨c0, c1, f0, f1⟩ := h.facts
  unfold skipP
  by_cases hp : Lib.hasPrefix left t = true
  · have ht : Lib.trimPrefix left t = left.drop t.length := by unfold Lib.trimPrefix; rw [if_pos hp]
    rw [hp, ht] at hcp
    have HCP := Lib.hid hcp
    simp only [hp, if_true]
    have HF := Lib.hid (And.intro (h.put0 (left.drop t.length)) ((Bx.refl b w).set 0 (strV (left.drop t.length))))
    clear hcp hp ht h
    generalize left.drop t.length = r at *
    unfold strV at *
    go_enter Tryz.func57, Tryz.ntmps57
    go_wp2_with (go_at_call 78; refine HCP.out.mono ?_; rintro e w1 ⟨rfl, rfl⟩)
    go_ret
    exact ⟨rfl, HF.out.1, HF.out.2⟩
  · have hp := eq_false_of_ne_true hp
    have ht : Lib.trimPrefix left t = left := by unfold Lib.trimPrefix; rw [if_neg (by rw [hp]; simp)]
    rw [hp, ht] at hcp
    have HCP := Lib.hid hcp
    simp only [hp, Bool.false_eq_true, if_false]
    have H := Lib.hid h
    clear hcp hp ht h
    unfold strV at *
    go_enter Tryz.func57, Tryz.ntmps57
    go_wp2_with (go_at_call 78; refine HCP.out.mono ?_; rintro e w1 ⟨rfl, rfl⟩)
    go_ret
    exact ⟨rfl, H.out, Bx.refl _ _⟩
theorem SlF.bx {α : Type} {L : Ly α} (hz : 0 < L.sz) {w1 w2 : World} {B b : Nat} {v : Value} {xs : List α} (h : SlF L w1 B v xs) (hx : Bx b w1 w2) (hb : b < B) : SlF L w2 B v xs := by
  obtain ⟨A, c, e, hc, hr⟩ := h
  exact ⟨A, c, e, hc, hr.move hz fun k hk hlt => hx.block k (by omega) hlt⟩
theorem SlF.form {α : Type} {L : Ly α} {w1 : World} {B : Nat} {v : Value} {xs : List α} (h : SlF L w1 B v xs) : ∃ A c, v = .slice A xs.length c := by
  obtain ⟨A, c, e, _⟩ := h
  exact ⟨A, c, e⟩
set_option maxHeartbeats 1000000 in
theorem numbersP_any (b : Nat) (p : PS) (w0 w : World) (h : PIn w0 b p w) (hG : Glob w0) (hl : p.left.length ≤ 100000000) :
    Calls Tryz.prog 59 #[.pointer (some ⟨b, 0, none⟩)] w fun e w' => ∃ v, e = .returned v ∧ SlF lDec w' w.heap.size v (numbersP p).1 ∧ PBox w' b (numbersP p).2 ∧ Bx b w w' := by
  obtain ⟨left, ok⟩ := p
  obtain ⟨c0, c1, f0, f1⟩ := h.box.facts
  have HR := Lib.hid (nread_any left w (hG.below h.hb0) (by simp only at hl; omega))
  have hbx := h.box
  have hblt := Box.lt hbx
  have HB := Lib.hid hbx
  unfold numbersP
  simp only at c0 c1 ⊢
  generalize readN left = r at *
  obtain ⟨ds, rest, q⟩ := r
  simp only at HR ⊢
  clear h hG hl hbx
  cases ok with
  | true =>
    unfold strV at *
    go_enter Tryz.func59, Tryz.ntmps59
    go_wp2_with (go_at_call 79; refine HR.out.mono ?_; rintro e w1 ⟨v, rfl, hv, hb1⟩; obtain ⟨A9, c9, rfl⟩ := hv.form; have hpb := PBox.below HB.out hb1; obtain ⟨d0, d1, g0, g1⟩ := hpb.facts; simp only at d0 d1)
    go_ret
    exact ⟨_, rfl, hv.bx (by decide) (((Bx.refl b w1).set 0 _).set 1 _) hblt, hpb.put rest _, ((Bx.of hb1).set 0 _).set 1 _⟩
  | false =>
    unfold strV at *
    go_enter Tryz.func59, Tryz.ntmps59
    go_wp2_with (go_at_call 79; refine HR.out.mono ?_; rintro e w1 ⟨v, rfl, hv, hb1⟩; obtain ⟨A9, c9, rfl⟩ := hv.form; have hpb := PBox.below HB.out hb1; obtain ⟨d0, d1, g0, g1⟩ := hpb.facts; simp only at d0 d1)
    go_ret
    exact ⟨_, rfl, hv.bx (by decide) (((Bx.refl b w1).set 0 _).set 1 _) hblt, hpb.put rest _, ((Bx.of hb1).set 0 _).set 1 _⟩
end Go.Proofs.T
namespace Go.Proofs.T
open Go.RowKit
def NBd (N : Nat) (n : Node) : Prop := NodeOk n ∧ n.shape.length ≤ N ∧ n.ints.length ≤ N ∧ n.decs.length ≤ N
theorem hasPrefix_le {s t : List UInt8} (h : Lib.hasPrefix s t = true) : t.length ≤ s.length := (List.isPrefixOf_iff_prefix.1 h).length_le
theorem skipP_le (p : PS) (t : List UInt8) : (skipP p t).2.left.length ≤ p.left.length := by
  unfold skipP
  split
  · simp only [List.length_drop]; omega
  · exact Nat.le_refl _
theorem skipP_lt (p : PS) (t : List UInt8) (h : (skipP p t).1 = true) : (skipP p t).2.left.length + t.length ≤ p.left.length := by
  unfold skipP at h ⊢
  split
  · next h2 => have := hasPrefix_le h2; simp only [List.length_drop]; omega
  · next h2 => rw [if_neg h2] at h; cases h
theorem skipIf_le (b : Bool) (p : PS) (t : List UInt8) : (skipIf b p t).left.length ≤ p.left.length := by
  unfold skipIf
  split
  · exact skipP_le p t
  · exact Nat.le_refl _
theorem skipIf_lt (b : Bool) (p : PS) (t : List UInt8) (h : (skipIf b p t).ok = true) : (skipIf b p t).left.length + t.length ≤ p.left.length := by
  unfold skipIf at h ⊢
  split
  · next h2 => rw [if_pos h2] at h; exact skipP_lt p t h
  · next h2 => rw [if_neg h2] at h; cases h
theorem DecsOk.snoc {l : List Dec} {d : Dec} (h : DecsOk l) (hd : DecOk d) : DecsOk (l ++ [d]) := fun x hx => by
  rcases List.mem_append.1 hx with hx | hx
  · exact h x hx
  · rw [List.mem_singleton.1 hx]; exact hd
theorem readNs_bd : ∀ (f : Nat) (s : List UInt8) (acc : List Dec), DecsOk acc → DecsOk (readNs f s acc).1 ∧ (readNs f s acc).1.length ≤ acc.length + f ∧ (readNs f s acc).2.1.length ≤ s.length
  | 0, s, acc, _ => ⟨fun x h => (by cases h), by simp [readNs], by simp [readNs]⟩
  | f + 1, s, acc, h => by
    have h1 := h.snoc (numRead_ok (s.take (cutP s)))
    unfold readNs
    split
    · split
      · have := readNs_bd f ((s.drop (cutP s)).drop 1) _ h1
        refine ⟨this.1, ?_, ?_⟩
        · have := this.2.1; simp only [List.length_append, List.length_cons, List.length_nil] at this; omega
        · have := this.2.2; simp only [List.length_drop] at this; omega
      · exact ⟨h1, by simp, by simp only [List.length_drop]; omega⟩
    · exact ⟨fun x h => (by cases h), by simp, by simp⟩
theorem readN_bd (s : List UInt8) : DecsOk (readN s).1 ∧ (readN s).1.length ≤ s.length + 1 ∧ (readN s).2.1.length ≤ s.length := by
  have := readNs_bd (s.length + 1) s [] (fun x h => by cases h)
  rw [List.length_nil, Nat.zero_add] at this
  exact this
theorem runesL_bd : ∀ (f : Nat) (s : List UInt8), I64s (runesL f s) ∧ (runesL f s).length ≤ f
  | 0, s => ⟨(fun x h => by cases h), by simp [runesL]⟩
  | f + 1, s => by
    have ih := runesL_bd f (s.drop (Lib.decodeL s).2)
    have hr := Lib.decodeL_rune s
    unfold runesL
    split
    · exact ⟨(fun x h => by cases h), by simp⟩
    · refine ⟨fun x hx => ?_, by simp only [List.length_cons]; omega⟩
      rcases List.mem_cons.1 hx with rfl | hx
      · unfold I64; omega
      · exact ih.1 x hx
theorem quoteReadN_bd (s : List UInt8) : I64s (quoteReadN s).1 ∧ (quoteReadN s).1.length ≤ 2 * s.length + 1 ∧ (quoteReadN s).2.1.length ≤ s.length := by
  have h0 : I64s ([] : List Int) := fun x h => by cases h
  unfold quoteReadN
  split
  · split
    · exact ⟨h0, by simp, by simp⟩
    · next e he =>
      split
      · have h1 := runesL_bd (Lib.replaceAll ((s.drop 1).take e) [39, 39] [39]).length (Lib.replaceAll ((s.drop 1).take e) [39, 39] [39])
        have h2 := replAll_len ((s.drop 1).take e)
        refine ⟨h1.1, ?_, by simp only [List.length_drop]; omega⟩
        have := h1.2
        simp only [List.length_take, List.length_drop] at h2 ⊢
        omega
      · exact ⟨h0, by simp, by simp⟩
  · exact ⟨h0, by simp, by simp⟩
theorem wholesP_bd : ∀ (l : List Dec) (b : Bool), DecsOk l → I64s (wholesP l b).1 ∧ (wholesP l b).1.length = l.length
  | [], b, _ => ⟨(fun x h => by cases h), rfl⟩
  | d :: r, b, h => by
    have ih := wholesP_bd r (b && (wholeD d.man d.exp).2) (fun x hx => h x (List.mem_cons_of_mem _ hx))
    unfold wholesP
    refine ⟨fun x hx => ?_, by simp [ih.2]⟩
    rcases List.mem_cons.1 hx with rfl | hx
    · exact wholeD_bd _ _ (h d (by simp)).1
    · exact ih.1 x hx
/-- What a method hands back: right nodes, no more than were read. -/
structure ABd (N q : Nat) (p : PS) (r : List Node × PS) : Prop where
  nodes : ∀ n ∈ r.1, NBd N n
  len : r.1.length + r.2.left.length ≤ p.left.length + q
theorem ABd.nil {N q : Nat} {p p' : PS} (h : p'.left.length ≤ p.left.length) : ABd N q p ([], p') := ⟨fun n h => by (cases h), by simp only [List.length_nil]; omega⟩
theorem ABd.one {N : Nat} {p p' : PS} {n : Node} (hn : NBd N n) (h : p'.left.length ≤ p.left.length) : ABd N 1 p ([n], p') := ⟨fun m hm => by rw [List.mem_singleton.1 hm]; exact hn, by simp only [List.length_cons, List.length_nil]; omega⟩
theorem ABd.cons {N : Nat} {p p' : PS} {n : Node} {r : List Node × PS} (hn : NBd N n) (h : p'.left.length ≤ p.left.length) (hr : ABd N 0 p' r) : ABd N 1 p (n :: r.1, r.2) := ⟨fun m hm => by
    rcases List.mem_cons.1 hm with rfl | hm
    · exact hn
    · exact hr.nodes m hm, by have := hr.len; simp only [List.length_cons]; omega⟩
theorem nest_bd {N : Nat} (s : List Int) (hs : I64s s) (hl : s.length ≤ N) : NBd N ⟨5, s, [], []⟩ := ⟨⟨lit 5 (by omega), hs, fun x h => (by cases h), fun x h => (by cases h)⟩, hl, Nat.zero_le _, Nat.zero_le _⟩
theorem kidsP_bd {M N : Nat} {arr : PS → List Node × PS} (ha : ∀ p, p.left.length ≤ M → ABd N 1 p (arr p)) (go : Bool) : ∀ (k : Nat) (p : PS), p.left.length ≤ M → ABd N 0 p (kidsP arr go k p)
  | 0, p, _ => ABd.nil (Nat.le_refl _)
  | k + 1, p, hp => by
    unfold kidsP
    have h1 := skipIf_le go p [40]
    split
    · split
      · next h2 =>
        have h3 := skipIf_lt go p [40] h2
        have h4 := ha (skipIf go p [40]) (by omega)
        have h5 := skipIf_le (arr (skipIf go p [40])).2.ok (arr (skipIf go p [40])).2 [41]
        have h6 := h4.len
        simp only [List.length_cons, List.length_nil] at h3
        have h7 := kidsP_bd ha go k (skipIf (arr (skipIf go p [40])).2.ok (arr (skipIf go p [40])).2 [41]) (by omega)
        have h8 := h7.len
        refine ⟨fun m hm => ?_, by simp only [List.length_append]; omega⟩
        rcases List.mem_append.1 hm with hm | hm
        · exact h4.nodes m hm
        · exact h7.nodes m hm
      · exact ABd.nil h1
    · exact ABd.nil (Nat.le_refl _)
theorem itemsP_bd {M N : Nat} {kids : Nat → PS → List Node × PS} (hk : ∀ k p, p.left.length ≤ M → ABd N 0 p (kids k p)) (s : List Int) (hs : I64s s) (hsl : s.length ≤ N) (hsm : s.length ≤ 1000000000) (p : PS) (hp : p.left.length ≤ M) (hN : 2 * M + 1 ≤ N) : ABd N 1 p (itemsP kids s p) := by
  have h1 := quoteReadN_bd p.left
  have h2 := readN_bd p.left
  unfold itemsP
  split
  · split
    · exact ABd.one ⟨⟨lit 3 (by omega), hs, h1.1, fun x h => (by cases h)⟩, hsl, by simp only; omega, Nat.zero_le _⟩ h1.2.2
    · split
      · exact ABd.cons (p' := ⟨p.left, true⟩) (nest_bd s hs hsl) (Nat.le_refl _) (hk _ ⟨p.left, true⟩ hp)
      · split
        · exact ABd.one ⟨⟨lit 2 (by omega), hs, fun x h => (by cases h), fun x h => (by cases h)⟩, hsl, Nat.zero_le _, Nat.zero_le _⟩ (skipIf_le _ _ _)
        · have h3 := numbersT_fit s (readN p.left).1 hs h2.1 hsm
          have hsn : (numbersT s (readN p.left).1).1.shape.length ≤ N := by
            unfold numbersT
            repeat' split
            all_goals first | exact hsl | exact Nat.zero_le _
          refine ABd.one ⟨h3.ok, hsn, ?_, ?_⟩ h2.2.2
          · have := h3.i; omega
          · have := h3.d; omega
  · exact ABd.nil (Nat.le_refl _)
theorem arrayP_bd {M N : Nat} (hN : 2 * M + 1 ≤ N) (hM : M ≤ 100000000) : ∀ (d : Nat) (p : PS), p.left.length ≤ M → ABd N 1 p (arrayP d p)
  | 0, p, _ => ABd.nil (Nat.le_refl _)
  | d + 1, p, hp => by
    have ih := arrayP_bd hN hM d
    have hk := kidsP_bd ih (decide (0 < d))
    have h0 : I64s ([] : List Int) := fun x h => by cases h
    have h1 := readN_bd p.left
    have h2 := wholesP_bd (numbersP p).1 true h1.1
    unfold arrayP
    split
    · exact ABd.cons (nest_bd [] h0 (Nat.zero_le _)) (skipP_le _ _) (hk 1 _ (Nat.le_trans (skipP_le _ _) hp))
    · split
      · have h3 := skipIf_le (numbersP p).2.ok (numbersP p).2 [226, 141, 180]
        have h4 : (numbersP p).2.left.length ≤ p.left.length := h1.2.2
        have h5 : (numbersP p).1.length ≤ p.left.length + 1 := h1.2.1
        have := itemsP_bd hk (wholesP (numbersP p).1 true).1 h2.1 (by omega) (by omega) ⟨(skipIf (numbersP p).2.ok (numbersP p).2 [226, 141, 180]).left, (wholesP (numbersP p).1 true).2⟩ (by simp only; omega) hN
        exact ⟨this.nodes, by have := this.len; simp only at this; omega⟩
      · exact itemsP_bd hk [] h0 (Nat.zero_le _) (Nat.zero_le _) p hp hN
end Go.Proofs.T
namespace Go.Proofs.T
open Go.RowKit
/-- What array does, at one depth. -/
def ArrC (w0 : World) (M d : Nat) : Prop := ∀ (b : Nat) (p : PS) (w : World), PIn w0 b p w → p.left.length ≤ M →
  Calls Tryz.prog 32 #[.pointer (some ⟨b, 0, none⟩), .int .i64 d] w (PPost (fun _ => False) b (arrayP d p) w)
theorem kidsP_stop (arr : PS → List Node × PS) (go : Bool) (k : Nat) (l : List UInt8) : kidsP arr go k ⟨l, false⟩ = ([], ⟨l, false⟩) := by
  cases k with
  | zero => rfl
  | succ k => simp [kidsP]
/-- What the loop of kids knows. -/
structure KRel (w0 w : World) (b M : Nat) (L : Nat) (want : List Node × PS) (f : PS → List Node × PS) (p' : PS) (done : List Node) (v : Value) (n : Nat) (wr : World) : Prop where
  hin : PIn w0 b p' wr
  hM : p'.left.length ≤ M
  hn : done.length = n
  hL : n + p'.left.length ≤ L
  want : (done ++ (f p').1, (f p').2) = want
  nodes : ∃ cs, wr.ownsRow w.heap.size 28 4 v n cs ∧ Parts lNode wr (okF (fun _ => False) w.heap.size v) done cs
  bx : Bx b w wr
theorem KRel.step {w0 w wr w3 W4 : World} {b M L n : Nat} {want : List Node × PS} {f f' : PS → List Node × PS} {p p' p3 : PS} {done ys : List Node} {v v1 : Value} {cs ds : List Value}
    (h : KRel w0 w b M L want f p' done v n wr) (hin : PIn w0 b p w) (hown : w3.ownsRow w.heap.size 28 4 v1 (n + ys.length) (cs ++ ds)) (hparts : Parts lNode w3 (okF (fun _ => False) w.heap.size v1) (done ++ ys) (cs ++ ds))
    (hbx3 : Bx b w w3) (h4 : Bx b w3 W4) (hp4 : PBox W4 b p3) (hM : p3.left.length ≤ M) (hL : n + ys.length + p3.left.length ≤ L) (hw : (done ++ ys ++ (f' p3).1, (f' p3).2) = want) :
    KRel w0 w b M L want f' p3 (done ++ ys) v1 (n + ys.length) W4 :=
  ⟨hin.bx (hbx3.trans h4) hp4, hM, by rw [List.length_append, h.hn], hL, hw, ⟨_, own_bx hown h4 (Box.lt hin.box), parts_bx hparts h4 (fun _ h => h.elim) (Box.lt hin.box)⟩, hbx3.trans h4⟩
theorem info28' : (Tryz.prog.info? 28).map (fun i => (i.zero, i.size, i.bytes)) = some (some (.agg #[.int .i64 0, .slice none 0 0, .slice none 0 0, .slice none 0 0]), lNode.sz, 80) := info28
set_option maxHeartbeats 4000000 in
set_option maxRecDepth 100000 in
theorem kidsC_any (w0 : World) (b M d count : Nat) (hM : M ≤ 100000000) (hA : 0 < d → ArrC w0 M d) (hB : ∀ p, p.left.length ≤ M → ABd (2 * M + 1) 1 p (arrayP d p)) (hc : count ≤ 1048576) (p : PS) (w : World) (hin : PIn w0 b p w) (hp : p.left.length ≤ M) :
    Calls Tryz.prog 58 #[.pointer (some ⟨b, 0, none⟩), .int .i64 count, .int .i64 d] w (PPost (fun _ => False) b (kidsP (arrayP d) (decide (0 < d)) count p) w) := by
  have hblt := Box.lt hin.box
  have HA := Lib.hid hA; have HB := Lib.hid hB; have HIN := Lib.hid hin
  clear hA hB hin
  generalize hwant : kidsP (arrayP d) (decide (0 < d)) count p = want
  have HW := Lib.hid hwant
  clear hwant
  go_enter Tryz.func58, Tryz.ntmps58
  go_wp2
  go_loopg [6, 7] count (fun gg v6 i wr => ∃ (k n : Nat) (p' : PS) (done : List Node) (v : Value), k ≤ count ∧ gg = count - k ∧ i = .int .i64 k ∧ v = v6 ∧ Hid (KRel w0 w b M p.left.length want (kidsP (arrayP d) (decide (0 < d)) (count - k)) p' done v n wr))
  case atStart => exact ⟨0, 0, p, [], _, by omega, by omega, rfl, rfl, ⟨HIN.out, hp, rfl, by omega, by rw [← HW.out]; simp, ⟨[], World.ownsRow_nil _ _ _ _, rfl⟩, Bx.refl _ _⟩⟩
  case round =>
    obtain ⟨k, n, p', done, v, hk, rfl, rfl, rfl, HR⟩ := hrel
    have hfrm := (by obtain ⟨cs, h, _⟩ := HR.out.nodes; exact own_form h : ∃ A c, v = .slice A n c)
    obtain ⟨A0, c0, rfl⟩ := hfrm
    obtain ⟨left, okk⟩ := p'
    by_cases hlt : k < count
    · cases okk with
      | false =>
        have hfin : Hid (PPost (fun _ => False) b want w (.returned (.slice A0 n c0)) wr) := by
          have h := HR.out
          obtain ⟨cs, h1, h2⟩ := h.nodes
          have hw := h.want
          rw [kidsP_stop, List.append_nil] at hw
          rw [← hw]
          exact ⟨_, rfl, ⟨cs, by rw [h.hn]; exact h1, h2⟩, h.hin.box, h.bx⟩
        obtain ⟨_, d1, _, _⟩ := HR.out.hin.box.facts
        simp only at d1
        clear HR
        go_wp2
        go_ret
        exact hfin.out
      | true =>
        have hck : count - k = (count - (k + 1)) + 1 := by omega
        have hR := HR.out
        have hpb := hR.hin.box
        have hbx := hR.bx
        have hw := hR.want
        rw [hck] at hw
        simp only [kidsP, if_true] at hw
        obtain ⟨c0', d1, f0, f1⟩ := hpb.facts
        simp only at c0' d1
        have HPB := Lib.hid hpb
        by_cases hd : 0 < d
        · have k1 : decide ((0 : Int) < (d : Int)) = true := by simpa using hd
          have kd : decide (0 < d) = true := by simpa using hd
          have HS1 := Lib.hid (fun W (h : PBox W b ⟨left, true⟩) => skip_any b ⟨left, true⟩ [40] W h)
          have hs1 := skipIf_le true ⟨left, true⟩ [40]
          have hs2 := skipIf_lt true ⟨left, true⟩ [40]
          rw [kd] at hw
          simp only [skipIf, if_true] at hw hs1 hs2
          generalize skipP ⟨left, true⟩ [40] = sp at *
          obtain ⟨q, pl, po⟩ := sp
          simp only at hw HS1 hs1 hs2
          cases q with
          | false =>
            simp only [Bool.false_eq_true, if_false] at hw
            have hrel : ∀ W, PBox W b ⟨pl, false⟩ → Bx b wr W → KRel w0 w b M p.left.length want (kidsP (arrayP d) (decide (0 < d)) (count - (k + 1))) ⟨pl, false⟩ done (.slice A0 n c0) n W := fun W h1 h2 => by
              obtain ⟨cs, g1, g2⟩ := hR.nodes
              exact ⟨hR.hin.bx h2 h1, by have := hR.hM; simp only at this ⊢; omega, hR.hn, by have := hR.hL; simp only at this ⊢; omega, by rw [← hw, kidsP_stop], ⟨cs, own_bx g1 h2 hblt, parts_bx g2 h2 (fun _ h => h.elim) hblt⟩, hR.bx.trans h2⟩
            have HREL := Lib.hid hrel
            clear hR hpb hw hrel HR
            unfold strV at HS1
            go_wp2_with (go_at_call 57; refine (HS1.out _ HPB.out).mono ?_; rintro e w1 ⟨rfl, hpb1, hbx1⟩; obtain ⟨c2', d2, f2, f3⟩ := hpb1.facts; have b1lt := Box.lt hpb1; simp only at c2' d2)
            go_roundg (count - (k + 1))
            case measure => omega
            case rel => exact ⟨k + 1, n, _, done, _, by omega, rfl, by go_num, rfl, HREL.out _ (hpb1.put1 false) (hbx1.set 1 _)⟩
          | true =>
            simp only [if_true] at hw
            have hs2 := hs2 rfl
            simp only [List.length_cons, List.length_nil] at hs2
            have hLL := hR.hL
            have hMM := hR.hM
            simp only at hLL hMM
            have HAr := Lib.hid (fun W h h2 => (HA.out hd) b ⟨pl, true⟩ W h h2)
            have hBr := (HB.out ⟨pl, true⟩ (by (try simp only); omega)).len
            generalize arrayP d ⟨pl, true⟩ = r at *
            obtain ⟨ys, l2, o2⟩ := r
            simp only at hBr hw
            have hR2 := Lib.hid hR
            obtain ⟨cs, g1, g2⟩ := hR.nodes
            have G1 := Lib.hid g1; have G2 := Lib.hid g2
            have hPI := Lib.hid (fun W hx (hq : PBox W b ⟨pl, true⟩) => hR.hin.bx hx hq)
            have hbase := hR.bx.size
            have hysl : ys.length ≤ 100000001 := by omega
            have hnl : n ≤ 100000000 := by omega
            clear hR hpb g1 g2 HR
            unfold strV at HS1
            cases o2 with
            | true =>
              simp only [if_true] at hw
              have HS2 := Lib.hid (fun W (h : PBox W b ⟨l2, true⟩) => skip_any b ⟨l2, true⟩ [41] W h)
              have ht1 := skipP_le ⟨l2, true⟩ [41]
              generalize skipP ⟨l2, true⟩ [41] = sp2 at *
              obtain ⟨q2, pl2, po2⟩ := sp2
              simp only at hw HS2 ht1
              have HW2 := Lib.hid hw
              clear hw
              unfold strV at HS2
              go_wp2_with (first
                | (go_at_call 57; have HH := HS1; clear HS1; refine (HH.out _ HPB.out).mono ?_; rintro e w1 ⟨rfl, hpb1, hbx1⟩; obtain ⟨c2', d2, f2, f3⟩ := hpb1.facts; have b1lt := Box.lt hpb1; simp only at c2' d2)
                | (go_at_call 32; refine (HAr.out _ (hPI.out _ (hbx1.set 1 _) (hpb1.put1 true)) (by (try simp only); omega)).mono ?_; rintro e w2 ⟨v2, rfl, ⟨cs2, hv2, hp2⟩, hpb2, hbx2⟩; obtain ⟨A2, c2, rfl⟩ := own_form hv2; have hx2 := (hbx1.set 1 (.bool true)).trans hbx2; obtain ⟨ll2, rd2⟩ := own_rd hv2 hp2 rfl (by (try simp only); omega); replace rd2 := Lib.hid (rd2.mono (ok' := fun k => wr.heap.size ≤ k) (by decide) fun k hk _ => hk.elim (fun h => h.elim) (fun h => Nat.le_trans (hbx1.set 1 (.bool true)).size h)))
                | (at_builtin; refine app_row (L := lNode) (w0 := w2) w.heap.size rfl (.tmp 32) (.tmp 35) 22 28 (.agg #[.int .i64 0, .slice none 0 0, .slice none 0 0, .slice none 0 0]) 80 rfl Tryz.underlying22 info28 rfl (by decide) (.slice A0 n c0) n cs rfl _ _ ys.length _ ys rfl rd2.out (own_bx G1.out hx2 hblt) (Below.refl _ _) (Nat.le_trans hbase hx2.size) (by simp only [maxLen]; omega) (by omega) ?_; intro v1 w3 ds hp3 hown3 hb3 hg3 hat3; have hnb := own_base G1.out; have hpb3 : PBox w3 b ⟨l2, true⟩ := Box.grown hpb2 hg3 (fun e => by have := hnb b e; omega); obtain ⟨c4', d4, f4, f5⟩ := hpb3.facts; have b3lt := Box.lt hpb3; simp only at c4' d4)
                | (go_at_call 57; refine (HS2.out _ hpb3).mono ?_; rintro e w4 ⟨rfl, hpb4, hbx4⟩; obtain ⟨c5', d5, f6, f7⟩ := hpb4.facts; have b4lt := Box.lt hpb4; simp only at c5' d5))
              go_roundg (count - (k + 1))
              case measure => omega
              case rel => exact ⟨k + 1, n + ys.length, _, _, v1, by omega, rfl, by go_num, rfl, hR2.out.step HIN.out hown3 (app_nodes (fun k hk => (G1.out.lt k hk).2) (parts_bx G2.out hx2 (fun _ h => h.elim) hblt) hp3 hbase hg3 hat3) ((hR2.out.bx.trans hx2).grown hg3 hnb) (hbx4.set 1 _) (hpb4.put1 _) (by (try simp only); omega) (by (try simp only); omega) (by rw [← HW2.out, kd, List.append_assoc])⟩
            | false =>
              simp only [Bool.false_eq_true, if_false] at hw
              have HW2 := Lib.hid hw
              clear hw
              go_wp2_with (first
                | (go_at_call 57; refine (HS1.out _ HPB.out).mono ?_; rintro e w1 ⟨rfl, hpb1, hbx1⟩; obtain ⟨c2', d2, f2, f3⟩ := hpb1.facts; have b1lt := Box.lt hpb1; simp only at c2' d2)
                | (go_at_call 32; refine (HAr.out _ (hPI.out _ (hbx1.set 1 _) (hpb1.put1 true)) (by (try simp only); omega)).mono ?_; rintro e w2 ⟨v2, rfl, ⟨cs2, hv2, hp2⟩, hpb2, hbx2⟩; obtain ⟨A2, c2, rfl⟩ := own_form hv2; have hx2 := (hbx1.set 1 (.bool true)).trans hbx2; obtain ⟨ll2, rd2⟩ := own_rd hv2 hp2 rfl (by (try simp only); omega); replace rd2 := Lib.hid (rd2.mono (ok' := fun k => wr.heap.size ≤ k) (by decide) fun k hk _ => hk.elim (fun h => h.elim) (fun h => Nat.le_trans (hbx1.set 1 (.bool true)).size h)))
                | (at_builtin; refine app_row (L := lNode) (w0 := w2) w.heap.size rfl (.tmp 32) (.tmp 35) 22 28 (.agg #[.int .i64 0, .slice none 0 0, .slice none 0 0, .slice none 0 0]) 80 rfl Tryz.underlying22 info28 rfl (by decide) (.slice A0 n c0) n cs rfl _ _ ys.length _ ys rfl rd2.out (own_bx G1.out hx2 hblt) (Below.refl _ _) (Nat.le_trans hbase hx2.size) (by simp only [maxLen]; omega) (by omega) ?_; intro v1 w3 ds hp3 hown3 hb3 hg3 hat3; have hnb := own_base G1.out; have hpb3 : PBox w3 b ⟨l2, false⟩ := Box.grown hpb2 hg3 (fun e => by have := hnb b e; omega); obtain ⟨c4', d4, f4, f5⟩ := hpb3.facts; have b3lt := Box.lt hpb3; simp only at c4' d4))
              go_roundg (count - (k + 1))
              case measure => omega
              case rel => exact ⟨k + 1, n + ys.length, _, _, v1, by omega, rfl, by go_num, rfl, hR2.out.step HIN.out hown3 (app_nodes (fun k hk => (G1.out.lt k hk).2) (parts_bx G2.out hx2 (fun _ h => h.elim) hblt) hp3 hbase hg3 hat3) ((hR2.out.bx.trans hx2).grown hg3 hnb) ((Bx.refl b w3).set 1 _) (hpb3.put1 _) (by (try simp only); omega) (by (try simp only); omega) (by rw [← HW2.out, kd, List.append_assoc])⟩
        · have k1 : decide ((0 : Int) < (d : Int)) = false := by simpa using hd
          have kd : decide (0 < d) = false := by simpa using hd
          rw [kd] at hw
          simp only [skipIf, Bool.false_eq_true, if_false] at hw
          have hrel : ∀ W, PBox W b ⟨left, false⟩ → Bx b wr W → KRel w0 w b M p.left.length want (kidsP (arrayP d) (decide (0 < d)) (count - (k + 1))) ⟨left, false⟩ done (.slice A0 n c0) n W := fun W h1 h2 => by
            obtain ⟨cs, g1, g2⟩ := hR.nodes
            exact ⟨hR.hin.bx h2 h1, hR.hM, hR.hn, hR.hL, by rw [← hw, kidsP_stop], ⟨cs, own_bx g1 h2 hblt, parts_bx g2 h2 (fun _ h => h.elim) hblt⟩, hR.bx.trans h2⟩
          have HREL := Lib.hid hrel
          have hwlt := Box.lt hpb
          clear hR hpb hw hrel HR hd
          go_wp2
          go_roundg (count - (k + 1))
          case measure => omega
          case rel => exact ⟨k + 1, n, _, done, _, by omega, rfl, by go_num, rfl, HREL.out _ (HPB.out.put1 false) ((Bx.refl b wr).set 1 _)⟩
    · have hfin : Hid (PPost (fun _ => False) b want w (.returned (.slice A0 n c0)) wr) := by
        have h := HR.out
        obtain ⟨cs, h1, h2⟩ := h.nodes
        have hw := h.want
        rw [show count - k = 0 by omega] at hw
        simp only [kidsP, List.append_nil] at hw
        rw [← hw]
        exact ⟨_, rfl, ⟨cs, by rw [h.hn]; exact h1, h2⟩, h.hin.box, h.bx⟩
      clear HR
      go_wp2
      go_ret
      exact hfin.out
end Go.Proofs.T
namespace Go.Proofs.T
open Go.RowKit
theorem nodeK {W : World} {ok : Nat → Prop} {n : Node} {P1 P2 P3 : Option Addr} {g1 g2 g3 : Nat} (h : NodeAt W ok n P1 P2 P3 g1 g2 g3) : lNode.K W ok n [.int .i64 n.kind, .slice P1 n.shape.length g1, .slice P2 n.ints.length g2, .slice P3 n.decs.length g3] :=
  ⟨[_], [_, _, _], rfl, rfl, [_], [_, _], rfl, ⟨P1, g1, rfl, h.l1, h.r1⟩, [_], [_], rfl, ⟨P2, g2, rfl, h.l2, h.r2⟩, P3, g3, rfl, h.l3, h.r3⟩
/-- A slice of one new node. -/
theorem one_nodeP {G b : Nat} {w W : World} {ok : Nat → Prop} {n : Node} {P1 P2 P3 : Option Addr} {g1 g2 g3 : Nat} {p' : PS} (hx : Bx b w W) (hp : PBox W b p') (h : NodeAt W (fun k => ok k ∨ w.heap.size ≤ k) n P1 P2 P3 g1 g2 g3) (hG : G = W.heap.size) :
    PPost ok b ([n], p') w (.returned (.slice (some ⟨G, 0, none⟩) 1 1)) (W.alloc (.cells #[.int .i64 n.kind, .slice P1 n.shape.length g1, .slice P2 n.ints.length g2, .slice P3 n.decs.length g3] 28)) := by
  subst hG
  refine ⟨_, rfl, ⟨_, own_new4 hx.size, Parts.single ?_⟩, PBox.below hp (bl_alloc (Below.refl _ _) _), hx.alloc _⟩
  exact nodeK (((h.mono (ok' := fun k => (ok k ∨ w.heap.size ≤ k) ∧ k < W.heap.size) fun k h1 h2 => ⟨h1, h2⟩).move fun k _ h2 => (bl_alloc (Below.refl _ _) _).block k h2).mono fun k hk _ => ⟨hk.1, fun e => by
      have h3 := hk.2
      have : W.heap.size = k := by simpa [Value.ownBlock] using e
      omega⟩)
theorem nilP {b : Nat} {w W : World} {ok : Nat → Prop} {p' : PS} (hx : Bx b w W) (hp : PBox W b p') : PPost ok b ([], p') w (.returned (.slice none 0 0)) W :=
  ⟨_, rfl, ⟨[], World.ownsRow_nil _ _ _ _, rfl⟩, hp, hx⟩
/-- A nest and what stands behind it. -/
theorem nestP {b c G : Nat} {w W w2 w3 : World} {ok : Nat → Prop} {A : Option Addr} {s : List Int} {ys : List Node} {v1 : Value} {ds : List Value} {p' : PS}
    (hx : Bx b w W) (hblt : b < w.heap.size) (hok : ∀ k, ok k → k ≠ b) (hS : Rd Ly.i64 W ok A s.length s) (hc : s.length ≤ c)
    (hx2 : Bx b (W.alloc (.cells #[.int .i64 5, .slice A s.length c, .slice none 0 0, .slice none 0 0] 28)) w2) (hp2 : PBox w2 b p')
    (hq : Parts lNode w2 (fun k => W.heap.size + 1 ≤ k) ys ds) (hown : w3.ownsRow w.heap.size 28 4 v1 (1 + ys.length) ([.int .i64 5, .slice A s.length c, .slice none 0 0, .slice none 0 0] ++ ds))
    (hg : w2.grownBy w3 (Value.slice (some ⟨G, 0, none⟩) 1 1).ownBlock) (hat : v1.ownBlock = (Value.slice (some ⟨G, 0, none⟩) 1 1).ownBlock ∨ ∃ b, v1.ownBlock = some b ∧ w2.heap.size ≤ b) (hG : G = W.heap.size) :
    PPost ok b (⟨5, s, [], []⟩ :: ys, p') w (.returned v1) w3 := by
  subst hG
  have hW := hx.size
  have hne : ∀ k, (Value.slice (some ⟨W.heap.size, 0, none⟩) 1 1).ownBlock = some k → W.heap.size = k := fun k e => by simpa [Value.ownBlock] using e
  have hat2 : NodeAt w2 (okF ok w.heap.size (.slice (some ⟨W.heap.size, 0, none⟩) 1 1)) ⟨5, s, [], []⟩ A none none c 0 0 :=
    ⟨hc, (((hS.mono (ok' := fun k => ok k ∧ k < W.heap.size) (by decide) fun k h1 h2 => ⟨h1, h2⟩).alloc (by decide) _).move (by decide) fun k hk hlt => hx2.block k (hok k hk.1) hlt).mono (by decide) fun k hk _ => ⟨.inl hk.1, fun e => by have := hne k e; have := hk.2; omega⟩, Nat.le_refl _, Rd.nil _ _ _ _, Nat.le_refl _, Rd.nil _ _ _ _⟩
  have hpn : Parts lNode w2 (okF ok w.heap.size (.slice (some ⟨W.heap.size, 0, none⟩) 1 1)) [⟨5, s, [], []⟩] [.int .i64 5, .slice A s.length c, .slice none 0 0, .slice none 0 0] := Parts.single (nodeK hat2)
  have hfin := app_nodes (fun k hk => by have := hne k hk; omega) hpn hq (by omega) hg hat
  refine ⟨v1, rfl, ⟨_, by rw [show (⟨5, s, [], []⟩ :: ys : List Node).length = 1 + ys.length by rw [List.length_cons]; omega]; exact hown, hfin⟩, Box.grown hp2 hg (fun e => by have := hne b e; omega), ?_⟩
  exact ((hx.alloc _).trans hx2).grown hg (fun k hk => by have := hne k hk; omega)
theorem SlF.low {α : Type} {L : Ly α} (hz : 0 < L.sz) {w : World} {B B' : Nat} {v : Value} {xs : List α} (h : SlF L w B v xs) (hb : B' ≤ B) : SlF L w B' v xs := by
  obtain ⟨A, c, e, hc, hr⟩ := h
  exact ⟨A, c, e, hc, hr.mono hz fun k hk _ => Nat.le_trans hb hk⟩
theorem SlF.at {α : Type} {L : Ly α} {w : World} {B n c : Nat} {A : Option Addr} {xs : List α} (h : SlF L w B (.slice A n c) xs) : n = xs.length ∧ xs.length ≤ c ∧ Rd L w (fun b => B ≤ b) A xs.length xs := by
  obtain ⟨A, c, e, hc, hr⟩ := h
  injection e with e1 e2 e3
  subst e1; subst e3
  exact ⟨e2, hc, hr⟩
/-- What kids does, at one depth. -/
def KidC (w0 : World) (M d : Nat) : Prop := ∀ (b count : Nat) (p : PS) (w : World), count ≤ 1048576 → PIn w0 b p w → p.left.length ≤ M →
  Calls Tryz.prog 58 #[.pointer (some ⟨b, 0, none⟩), .int .i64 count, .int .i64 d] w (PPost (fun _ => False) b (kidsP (arrayP d) (decide (0 < d)) count p) w)
set_option maxHeartbeats 4000000 in
set_option maxRecDepth 100000 in
theorem itemsC_any (w0 : World) (hG : Glob w0) (b M d : Nat) (hd16 : d ≤ 16) (hM : M ≤ 100000000) (hK : KidC w0 M d) (hB : ∀ k p, p.left.length ≤ M → ABd (2 * M + 1) 0 p (kidsP (arrayP d) (decide (0 < d)) k p)) (s : List Int) (hs : I64s s) (hsl : s.length ≤ 1000000000) (A : Option Addr) (c : Nat) (hc : s.length ≤ c) (ok : Nat → Prop) (hok : ∀ k, ok k → k ≠ b) (p : PS) (w : World) (hin : PIn w0 b p w) (hp : p.left.length ≤ M) (hS : Rd Ly.i64 w ok A s.length s) :
    Calls Tryz.prog 60 #[.pointer (some ⟨b, 0, none⟩), .slice A s.length c, .int .i64 ((d : Int) + 1)] w (PPost ok b (itemsP (kidsP (arrayP d) (decide (0 < d))) s p) w) := by
  have hblt := Box.lt hin.box
  have hcn := count_any2 A c s ok w hS
  have hcb := countS_bd s
  have hu : ∀ r, itemsP (kidsP (arrayP d) (decide (0 < d))) s p = r → Calls Tryz.prog 60 #[.pointer (some ⟨b, 0, none⟩), .slice A s.length c, .int .i64 ((d : Int) + 1)] w (PPost ok b r w) := fun r hr => by
    unfold itemsP at hr
    have hSn : Hid (∀ n : Node, n.shape = s → n.decs = [] → ∀ (W : World) A2 c2, Bx b w W → n.ints.length ≤ c2 → Rd Ly.i64 W (fun k => w.heap.size ≤ k) A2 n.ints.length n.ints → NodeAt W (fun k => ok k ∨ w.heap.size ≤ k) n A A2 none c c2 0) := fun n e1 e2 W A2 c2 hx hc2 hr2 => by
      subst e1
      refine ⟨hc, (hS.move (by decide) fun k hk hlt => hx.block k (hok k hk) hlt).mono (by decide) fun k hk _ => .inl hk, hc2, hr2.mono (by decide) fun k hk _ => .inr hk, ?_, ?_⟩
      · rw [e2]; exact Nat.le_refl _
      · rw [e2]; exact Rd.nil _ _ _ _
    generalize countS s = cs at *
    obtain ⟨cnt, cok⟩ := cs
    obtain ⟨left, okk⟩ := p
    have hpb := hin.box
    obtain ⟨c0, d1, f0, f1⟩ := hpb.facts
    simp only at c0 d1 hr hcn hcb hp
    have HC := Lib.hid hcn; have HPB := Lib.hid hpb; have HIN := Lib.hid hin; have HG := Lib.hid hG
    clear hcn hpb hin hG
    by_cases ho : (okk && cok) = true
    · obtain ⟨rfl, rfl⟩ : okk = true ∧ cok = true := by simpa using ho
      simp only [Bool.and_self, if_true] at hr
      clear ho
      have hh1 := fun W => (Tryz.strings_HasPrefix ⟨left.toArray⟩ ⟨#[39]⟩ W).mono (fun e w' h => (⟨h.1, h.2.symm⟩ : _ ∧ W = w'))
      have hh2 := fun W => (Tryz.strings_HasPrefix ⟨left.toArray⟩ ⟨#[40]⟩ W).mono (fun e w' h => (⟨h.1, h.2.symm⟩ : _ ∧ W = w'))
      simp only [List.toList_toArray] at hh1 hh2
      cases h39 : Lib.hasPrefix left [39] with
      | true =>
        rw [h39] at hr hh1
        simp only [if_true] at hr
        have HH1 := Lib.hid hh1
        have HQ := Lib.hid (fun W (h : Below w0.heap.size w0 W) => quoteRead_any left W (HG.out.below h) (by omega))
        generalize quoteReadN left = qr at *
        obtain ⟨l, rest, qok⟩ := qr
        simp only at hr HQ
        clear hh1 hh2 h39
        have HR := Lib.hid hr
        clear hr
        unfold strV at *
        cases qok with
        | true =>
          go_enter Tryz.func60, Tryz.ntmps60
          go_wp2_with (first
            | (go_at_call 36; refine HC.out.mono ?_; rintro e w1 ⟨rfl, hb1⟩; have hpb1 := PBox.below HPB.out hb1; obtain ⟨c2, d2, f2, f3⟩ := hpb1.facts; have b1lt := Box.lt hpb1; simp only at c2 d2; have hx1 := (Bx.of (b := b) hb1).set 1 (.bool true); have hpi1 := HIN.out.bx hx1 (hpb1.put1 true))
            | (go_at_call 80; refine (HH1.out _).mono ?_; rintro e w2 ⟨rfl, rfl⟩)
            | (go_at_call 81; refine (HQ.out _ hpi1.hb0).mono ?_; rintro e w3 ⟨v, rfl, hv, hb3⟩; obtain ⟨A3, c3, rfl⟩ := hv.form; have hpb3 := PBox.below hpi1.box hb3; obtain ⟨c4, d4, f4, f5⟩ := hpb3.facts; have b3lt := Box.lt hpb3; simp only at c4 d4; have hx3 := ((hx1.bl hb3).set 0 (.string ⟨rest.toArray⟩)).set 1 (.bool ((l.length : Int) == cnt))))
          go_ret
          have hv2 := (hv.bx (by decide) (((Bx.refl b w3).set 0 (.string ⟨rest.toArray⟩)).set 1 (.bool ((l.length : Int) == cnt))) (Nat.lt_of_lt_of_le hblt hx1.size)).low (by decide) hx1.size
          rw [← HR.out]
          exact one_nodeP (n := ⟨3, s, l, []⟩) hx3 (hpb3.put rest _) (hSn.out ⟨3, s, l, []⟩ rfl rfl _ A3 c3 hx3 hv2.at.2.1 hv2.at.2.2) (by simp [World.setCell])
        | false =>
          go_enter Tryz.func60, Tryz.ntmps60
          go_wp2_with (first
            | (go_at_call 36; refine HC.out.mono ?_; rintro e w1 ⟨rfl, hb1⟩; have hpb1 := PBox.below HPB.out hb1; obtain ⟨c2, d2, f2, f3⟩ := hpb1.facts; have b1lt := Box.lt hpb1; simp only at c2 d2; have hx1 := (Bx.of (b := b) hb1).set 1 (.bool true); have hpi1 := HIN.out.bx hx1 (hpb1.put1 true))
            | (go_at_call 80; refine (HH1.out _).mono ?_; rintro e w2 ⟨rfl, rfl⟩)
            | (go_at_call 81; refine (HQ.out _ hpi1.hb0).mono ?_; rintro e w3 ⟨v, rfl, hv, hb3⟩; obtain ⟨A3, c3, rfl⟩ := hv.form; have hpb3 := PBox.below hpi1.box hb3; obtain ⟨c4, d4, f4, f5⟩ := hpb3.facts; have b3lt := Box.lt hpb3; simp only at c4 d4; have hx3 := ((hx1.bl hb3).set 0 (.string ⟨rest.toArray⟩)).set 1 (.bool false)))
          go_ret
          have hv2 := (hv.bx (by decide) (((Bx.refl b w3).set 0 (.string ⟨rest.toArray⟩)).set 1 (.bool false)) (Nat.lt_of_lt_of_le hblt hx1.size)).low (by decide) hx1.size
          rw [← HR.out]
          exact one_nodeP (n := ⟨3, s, l, []⟩) hx3 (hpb3.put rest _) (hSn.out ⟨3, s, l, []⟩ rfl rfl _ A3 c3 hx3 hv2.at.2.1 hv2.at.2.2) (by simp [World.setCell])
      | false =>
        rw [h39] at hr hh1
        simp only [Bool.false_eq_true, if_false] at hr
        have HH1 := Lib.hid hh1
        cases h40 : Lib.hasPrefix left [40] with
        | true =>
          rw [h40] at hr hh2
          simp only [if_true] at hr
          have HH2 := Lib.hid hh2
          obtain ⟨N, rfl⟩ : ∃ N : Nat, cnt = N := ⟨cnt.toNat, by omega⟩
          rw [Int.toNat_natCast] at hr
          have HKK := Lib.hid (fun W (h : PIn w0 b ⟨left, true⟩ W) => hK b N ⟨left, true⟩ W (by omega) h hp)
          have hBB := (hB N ⟨left, true⟩ hp).len
          generalize kidsP (arrayP d) (decide (0 < d)) N ⟨left, true⟩ = kr at *
          obtain ⟨ys, p'⟩ := kr
          simp only at hr hBB
          have HR := Lib.hid hr
          have HSS := Lib.hid hS
          have hysl : ys.length ≤ 100000000 := by omega
          clear hr hh1 hh2 h39 h40 hSn hS hBB hK hB
          unfold strV at *
          go_enter Tryz.func60, Tryz.ntmps60
          go_wp2_with (first
            | (go_at_call 36; refine HC.out.mono ?_; rintro e w1 ⟨rfl, hb1⟩; have hpb1 := PBox.below HPB.out hb1; obtain ⟨c2, d2, f2, f3⟩ := hpb1.facts; have b1lt := Box.lt hpb1; simp only at c2 d2; have hx1 := (Bx.of (b := b) hb1).set 1 (.bool true); have hpi1 := HIN.out.bx hx1 (hpb1.put1 true))
            | (go_at_call 80; have hH := HH1; clear HH1; refine (hH.out _).mono ?_; rintro e w2 ⟨rfl, rfl⟩)
            | (go_at_call 80; refine (HH2.out _).mono ?_; rintro e w2 ⟨rfl, rfl⟩)
            | (go_at_call 58; have hpi2 := hpi1.bx ((Bx.refl b _).alloc (.cells #[.int .i64 5, .slice A s.length c, .slice none 0 0, .slice none 0 0] 28)) (PBox.below hpi1.box (bl_alloc (Below.refl _ _) (.cells #[.int .i64 5, .slice A s.length c, .slice none 0 0, .slice none 0 0] 28))); refine (HKK.out _ hpi2).mono ?_; rintro e w3 ⟨v2, rfl, ⟨cs2, hv2, hp2⟩, hpb3, hbx3⟩; obtain ⟨A2, c2, rfl⟩ := own_form hv2; have hsz : (w1.setCell ⟨b, 1, none⟩ (.bool true)).heap.size = w1.heap.size := (by simp [World.setCell]); have HO := Lib.hid (own_bx (own_new4 (a := .int .i64 5) (b := .slice A s.length c) (c := .slice none 0 0) (d := .slice none 0 0) hx1.size) hbx3 hblt); rw [hsz] at HO; obtain ⟨ll2, rd2⟩ := own_rd hv2 hp2 rfl (by (try simp only); omega); have RD2 := Lib.hid (rd2.mono (ok' := fun k => (w1.setCell ⟨b, 1, none⟩ (.bool true)).heap.size + 1 ≤ k) (by decide) fun k hk _ => hk.elim (fun h => h.elim) (fun h => by simpa using h)); have hbase : w.heap.size ≤ w3.heap.size := Nat.le_trans hx1.size (Nat.le_trans (by simp) hbx3.size); clear rd2)
            | (at_builtin; refine app_row (L := lNode) (w0 := w3) w.heap.size rfl (.tmp 74) (.tmp 79) 22 28 (.agg #[.int .i64 0, .slice none 0 0, .slice none 0 0, .slice none 0 0]) 80 rfl Tryz.underlying22 info28 rfl (by decide) (.slice (some ⟨w1.heap.size, 0, none⟩) 1 1) 1 [.int .i64 5, .slice A s.length c, .slice none 0 0, .slice none 0 0] rfl _ _ ys.length _ ys rfl RD2.out HO.out (Below.refl _ _) hbase (by simp only [maxLen]; omega) (by omega) ?_; intro v1 w4 ds hp4 hown4 hb4 hg4 hat4))
          go_ret
          rw [← HR.out]
          exact nestP hx1 hblt hok (HSS.out.move (by decide) fun k hk hlt => hx1.block k (hok k hk) hlt) hc hbx3 hpb3 hp4 hown4 hg4 hat4 hsz.symm
        | false =>
          rw [h40] at hr hh2
          simp only [Bool.false_eq_true, if_false] at hr
          have HH2 := Lib.hid hh2
          clear hh1 hh2 h39 h40 hK hB
          by_cases hc0 : cnt = 0
          · rw [if_pos hc0] at hr
            have k0 : (cnt == 0) = true := by simpa using hc0
            have HS := Lib.hid (fun W (h : PBox W b ⟨left, true⟩) => skip_any b ⟨left, true⟩ [48] W h)
            simp only [skipIf, if_true] at hr
            generalize skipP ⟨left, true⟩ [48] = sp at *
            obtain ⟨q, pl, po⟩ := sp
            simp only at hr HS
            have HR := Lib.hid hr
            clear hr hc0
            unfold strV at *
            go_enter Tryz.func60, Tryz.ntmps60
            go_wp2_with (first
              | (go_at_call 36; refine HC.out.mono ?_; rintro e w1 ⟨rfl, hb1⟩; have hpb1 := PBox.below HPB.out hb1; obtain ⟨c2, d2, f2, f3⟩ := hpb1.facts; have b1lt := Box.lt hpb1; simp only at c2 d2; have hx1 := (Bx.of (b := b) hb1).set 1 (.bool true); have hpi1 := HIN.out.bx hx1 (hpb1.put1 true))
              | (go_at_call 80; have hH := HH1; clear HH1; refine (hH.out _).mono ?_; rintro e w2 ⟨rfl, rfl⟩)
              | (go_at_call 80; refine (HH2.out _).mono ?_; rintro e w2 ⟨rfl, rfl⟩)
              | (go_at_call 57; refine (HS.out _ hpi1.box).mono ?_; rintro e w3 ⟨rfl, hpb3, hbx3⟩; obtain ⟨c4, d4, f4, f5⟩ := hpb3.facts; have b3lt := Box.lt hpb3; simp only at c4 d4; have hx3 := (hx1.trans hbx3).set 1 (.bool q)))
            go_ret
            rw [← HR.out]
            exact one_nodeP (n := ⟨2, s, [], []⟩) hx3 (hpb3.put1 q) (hSn.out ⟨2, s, [], []⟩ rfl rfl _ none 0 hx3 (Nat.le_refl _) (Rd.nil _ _ _ _)) (by simp [World.setCell])
          · rw [if_neg hc0] at hr
            have k0 : (cnt == 0) = false := by simpa using hc0
            have HNP := Lib.hid (fun W h => numbersP_any b ⟨left, true⟩ w0 W h HG.out (by (try simp only); omega))
            have hbd := readN_bd left
            unfold numbersP at HNP
            simp only at HNP
            generalize readN left = rn at *
            obtain ⟨l, rest, nok⟩ := rn
            simp only at hr HNP hbd
            have HNT := Lib.hid (fun W B cb (h1 : Rd Ly.i64 W (fun k => ok k ∨ w.heap.size ≤ k) A s.length s) (h2 : Rd lDec W (fun k => ok k ∨ w.heap.size ≤ k) B l.length l) => numbersT_any s l A B c cb _ W h1 h2 hbd.1 hsl (by omega))
            generalize numbersT s l = nt at *
            obtain ⟨n, nb⟩ := nt
            simp only at hr HNT
            have HR := Lib.hid hr
            have HSS := Lib.hid (fun W (hx : Bx b w W) => (hS.move (by decide) fun k hk hlt => hx.block k (hok k hk) hlt).mono (ok' := fun k => ok k ∨ w.heap.size ≤ k) (by decide) fun k hk _ => .inl hk)
            clear hr hc0 hS hbd hSn
            unfold strV at *
            go_enter Tryz.func60, Tryz.ntmps60
            go_wp2_with (first
              | (go_at_call 36; refine HC.out.mono ?_; rintro e w1 ⟨rfl, hb1⟩; have hpb1 := PBox.below HPB.out hb1; obtain ⟨c2, d2, f2, f3⟩ := hpb1.facts; have b1lt := Box.lt hpb1; simp only at c2 d2; have hx1 := (Bx.of (b := b) hb1).set 1 (.bool true); have hpi1 := HIN.out.bx hx1 (hpb1.put1 true))
              | (go_at_call 80; have hH := HH1; clear HH1; refine (hH.out _).mono ?_; rintro e w2 ⟨rfl, rfl⟩)
              | (go_at_call 80; refine (HH2.out _).mono ?_; rintro e w2 ⟨rfl, rfl⟩)
              | (go_at_call 59; refine (HNP.out _ hpi1).mono ?_; rintro e w3 ⟨v, rfl, hv, hpb3, hbx3⟩; obtain ⟨A3, c3, rfl⟩ := hv.form; have hx3 := hx1.trans hbx3; have hv2 := (hv.low (by decide) hx1.size).at)
              | (go_at_call 16; refine (HNT.out _ A3 c3 (HSS.out _ hx3) (hv2.2.2.mono (by decide) fun k hk _ => .inr hk)).mono ?_; rintro e w4 ⟨P1, P2, P3, g1, g2, g3, rfl, hat, hb4⟩; simp only [nodeV, nodeW]; have hpb4 := PBox.below hpb3 hb4; obtain ⟨c5, d5, f5, f6⟩ := hpb4.facts; have b4lt := Box.lt hpb4; simp only at c5 d5; have hx4 := hx3.bl hb4))
            all_goals
              go_ret
              have z3 := Nat.lt_of_lt_of_le hblt hx3.size
              have hfin : ∀ x : Bool, (nok && nb) = x → PPost ok b r w (.returned (.slice (some ⟨w4.heap.size + 1, 0, none⟩) 1 1)) (((w4.setCell ⟨b, 1, none⟩ (.bool x)).alloc (.cells #[.int .i64 n.kind, .slice P1 n.shape.length g1, .slice P2 n.ints.length g2, .slice P3 n.decs.length g3] 28)).alloc (.cells #[.int .i64 n.kind, .slice P1 n.shape.length g1, .slice P2 n.ints.length g2, .slice P3 n.decs.length g3] 28)) := fun x hx => by
                rw [← HR.out, hx]
                have hat2 := hat.move (w' := (w4.setCell ⟨b, 1, none⟩ (.bool x)).alloc (.cells #[.int .i64 n.kind, .slice P1 n.shape.length g1, .slice P2 n.ints.length g2, .slice P3 n.decs.length g3] 28)) fun k hk hlt => (((Bx.refl b w4).set 1 (.bool x)).alloc _).block k (by omega) hlt
                exact one_nodeP ((hx4.set 1 (.bool x)).alloc _) (PBox.below (hpb4.put1 x) (bl_alloc (Below.refl _ _) _)) (hat2.mono fun k hk _ => .inr (Nat.le_trans hx3.size hk)) (by simp [World.setCell])
              exact hfin _ (by simp [*])
    · rw [if_neg ho] at hr
      have ho := eq_false_of_ne_true ho
      subst hr
      clear hSn
      cases okk with
      | true =>
        obtain rfl : cok = false := by simpa using ho
        clear ho
        go_enter Tryz.func60, Tryz.ntmps60
        go_wp2_with (go_at_call 36; refine HC.out.mono ?_; rintro e w1 ⟨rfl, hb1⟩; have hpb1 := PBox.below HPB.out hb1; obtain ⟨c2, d2, f2, f3⟩ := hpb1.facts; have b1lt := Box.lt hpb1; simp only at c2 d2)
        go_ret
        exact nilP ((Bx.of hb1).set 1 _) (hpb1.put1 _)
      | false =>
        go_enter Tryz.func60, Tryz.ntmps60
        go_wp2_with (go_at_call 36; refine HC.out.mono ?_; rintro e w1 ⟨rfl, hb1⟩; have hpb1 := PBox.below HPB.out hb1; obtain ⟨c2, d2, f2, f3⟩ := hpb1.facts; have b1lt := Box.lt hpb1; simp only at c2 d2)
        go_ret
        exact nilP ((Bx.of hb1).set 1 _) (hpb1.put1 _)
  exact hu _ rfl
end Go.Proofs.T
namespace Go.Proofs.T
open Go.RowKit
theorem PPost.later {ok ok' : Nat → Prop} {b : Nat} {r : List Node × PS} {w W : World} {e : Ending} {w' : World} (h : PPost ok b r W e w') (hx : Bx b w W) (hok : ∀ k, ok k → ok' k ∨ w.heap.size ≤ k) : PPost ok' b r w e w' := by
  obtain ⟨v, rfl, ⟨cs, h1, h2⟩, h3, h4⟩ := h
  have hsz := hx.size
  refine ⟨v, rfl, ⟨cs, ⟨h1.1, ?_⟩, h2.mono fun k hk _ => ⟨?_, hk.2⟩⟩, h3, hx.trans h4⟩
  · rcases h1.2 with h | ⟨g, cap, cur, e, hg, hr⟩
    · exact .inl h
    · exact .inr ⟨g, cap, cur, e, Nat.le_trans hsz hg, hr⟩
  · rcases hk.1 with h | h
    · exact hok k h
    · exact .inr (Nat.le_trans hsz h)
set_option maxHeartbeats 4000000 in
set_option maxRecDepth 100000 in
/-- array, where an array alone stands in another one. -/
theorem array_alone (w0 : World) (b M d : Nat) (hd16 : d ≤ 15) (hM : M ≤ 100000000) (hK : KidC w0 M d) (hB : ∀ k p, p.left.length ≤ M → ABd (2 * M + 1) 0 p (kidsP (arrayP d) (decide (0 < d)) k p)) (p : PS) (w : World) (hin : PIn w0 b p w) (hp : p.left.length ≤ M) (hs : (skipP p [226, 138, 130]).1 = true) :
    Calls Tryz.prog 32 #[.pointer (some ⟨b, 0, none⟩), .int .i64 ((d : Int) + 1)] w (PPost (fun _ => False) b (⟨5, [], [], []⟩ :: (kidsP (arrayP d) (decide (0 < d)) 1 (skipP p [226, 138, 130]).2).1, (kidsP (arrayP d) (decide (0 < d)) 1 (skipP p [226, 138, 130]).2).2) w) := by
  have hblt := Box.lt hin.box
  have HS := Lib.hid (skip_any b p [226, 138, 130] w hin.box)
  have hle := skipP_le p [226, 138, 130]
  generalize skipP p [226, 138, 130] = sp at *
  obtain ⟨q, p1⟩ := sp
  simp only at hs HS hle ⊢
  subst hs
  have HKK := Lib.hid (fun W (h : PIn w0 b p1 W) => hK b 1 p1 W (by omega) h (by omega))
  rw [Int.natCast_one] at HKK
  have hBB := (hB 1 p1 (by omega)).len
  generalize kidsP (arrayP d) (decide (0 < d)) 1 p1 = kr at *
  obtain ⟨ys, p'⟩ := kr
  simp only at hBB
  have hysl : ys.length ≤ 100000000 := by omega
  have HIN := Lib.hid hin
  clear hBB hK hB hin
  unfold strV at HS
  go_enter Tryz.func32, Tryz.ntmps32
  go_wp2_with (first
    | (go_at_call 57; refine HS.out.mono ?_; rintro e w1 ⟨rfl, hpb1, hbx1⟩; have hpi1 := HIN.out.bx hbx1 hpb1)
    | (go_at_call 58; have hpi2 := hpi1.bx ((Bx.refl b _).alloc (.cells #[.int .i64 5, .slice none 0 0, .slice none 0 0, .slice none 0 0] 28)) (PBox.below hpi1.box (bl_alloc (Below.refl _ _) (.cells #[.int .i64 5, .slice none 0 0, .slice none 0 0, .slice none 0 0] 28))); refine (HKK.out _ hpi2).mono ?_; rintro e w3 ⟨v2, rfl, ⟨cs2, hv2, hp2⟩, hpb3, hbx3⟩; obtain ⟨A2, c2, rfl⟩ := own_form hv2; have HO := Lib.hid (own_bx (own_new4 (a := .int .i64 5) (b := .slice none 0 0) (c := .slice none 0 0) (d := .slice none 0 0) hbx1.size) hbx3 hblt); obtain ⟨ll2, rd2⟩ := own_rd hv2 hp2 rfl (by (try simp only); omega); have RD2 := Lib.hid (rd2.mono (ok' := fun k => w1.heap.size + 1 ≤ k) (by decide) fun k hk _ => hk.elim (fun h => h.elim) (fun h => (by simpa using h))); have hbase : w.heap.size ≤ w3.heap.size := Nat.le_trans hbx1.size (Nat.le_trans (by simp) hbx3.size); clear rd2)
    | (at_builtin; refine app_row (L := lNode) (w0 := w3) w.heap.size rfl (.tmp 15) (.tmp 19) 22 28 (.agg #[.int .i64 0, .slice none 0 0, .slice none 0 0, .slice none 0 0]) 80 rfl Tryz.underlying22 info28 rfl (by decide) (.slice (some ⟨w1.heap.size, 0, none⟩) 1 1) 1 [.int .i64 5, .slice none 0 0, .slice none 0 0, .slice none 0 0] rfl _ _ ys.length _ ys rfl RD2.out HO.out (Below.refl _ _) hbase (by simp only [maxLen]; omega) (by omega) ?_; intro v1 w4 ds hp4 hown4 hb4 hg4 hat4))
  go_ret
  exact nestP (s := []) (c := 0) (A := none) (ok := fun _ => False) hbx1 hblt (fun k h => h.elim) (Rd.nil _ _ _ _) (Nat.le_refl _) hbx3 hpb3 hp4 hown4 hg4 hat4 rfl
end Go.Proofs.T
namespace Go.Proofs.T
open Go.RowKit
theorem PBox.bx {q b : Nat} {w w1 : World} {p : PS} (h : PBox w b p) (hx : Bx q w w1) (hb : b ≠ q) : PBox w1 b p := hx.box h hb
set_option maxHeartbeats 4000000 in
set_option maxRecDepth 100000 in
/-- array, where no shape stands. -/
theorem array_plain (w0 : World) (hG : Glob w0) (b M d : Nat) (hd16 : d ≤ 15) (hM : M ≤ 100000000) (hK : KidC w0 M d) (hB : ∀ k p, p.left.length ≤ M → ABd (2 * M + 1) 0 p (kidsP (arrayP d) (decide (0 < d)) k p)) (p : PS) (w : World) (hin : PIn w0 b p w) (hp : p.left.length ≤ M) (hs : (skipP p [226, 138, 130]).1 = false) (hn : (skipIf (numbersP p).2.ok (numbersP p).2 [226, 141, 180]).ok = false) :
    Calls Tryz.prog 32 #[.pointer (some ⟨b, 0, none⟩), .int .i64 ((d : Int) + 1)] w (PPost (fun _ => False) b (itemsP (kidsP (arrayP d) (decide (0 < d))) [] p) w) := by
  have hblt := Box.lt hin.box
  have hsk := skip_any b p [226, 138, 130] w hin.box
  have hsp : skipP p [226, 138, 130] = (false, p) := by
    unfold skipP at hs ⊢
    split
    · next h => rw [if_pos h] at hs; cases hs
    · rfl
  rw [hsp] at hsk
  have HS := Lib.hid hsk
  have HNP := Lib.hid (fun q W h => numbersP_any q p w0 W h hG (by omega))
  have HIT := Lib.hid (fun W h => itemsC_any w0 hG b M d (by omega) hM hK hB [] (fun x h => by cases h) (Nat.zero_le _) none 0 (Nat.le_refl _) (fun _ => False) (fun k h => h.elim) p W h hp (Rd.nil _ _ _ _))
  generalize itemsP (kidsP (arrayP d) (decide (0 < d))) [] p = r at *
  generalize numbersP p = np at *
  obtain ⟨l, np⟩ := np
  have HIN := Lib.hid hin
  clear hK hB hin hsk hsp hs
  simp only at HNP hn
  obtain ⟨nl, nok⟩ := np
  unfold strV at HS
  cases nok with
  | false =>
    go_enter Tryz.func32, Tryz.ntmps32
    go_wp2_with (first
      | (go_at_call 57; refine HS.out.mono ?_; rintro e w1 ⟨rfl, hpb1, hbx1⟩; have hpi1 := HIN.out.bx hbx1 hpb1; obtain ⟨c2, d2, f2, f3⟩ := hpb1.facts; have b1lt := Box.lt hpb1; unfold strV at c2)
      | (go_at_call 59; have hq : PIn w0 w1.heap.size p (w1.alloc (.cells #[.string ⟨p.left.toArray⟩, .bool p.ok] 69)) := ⟨hpi1.hb0.trans ((bl_alloc (Below.refl _ _) _).mono hpi1.hb0.size), hpi1.hb0.size, Box.new _ _ _⟩; refine (HNP.out _ _ hq).mono ?_; rintro e w3 ⟨v, rfl, hv, hpq3, hbx3⟩; obtain ⟨A3, c3, rfl⟩ := hv.form; obtain ⟨c4, d4, f4, f5⟩ := hpq3.facts; simp only at c4 d4; have hx3 := ((hbx1.alloc (.cells #[.string ⟨p.left.toArray⟩, .bool p.ok] 69)).new hbx3 hbx1.size); have hpb3 := (PBox.below hpb1 (bl_alloc (Below.refl _ _) (.cells #[.string ⟨p.left.toArray⟩, .bool p.ok] 69))).bx hbx3 (by omega); have hpi3 := HIN.out.bx hx3 hpb3)
      | (go_at_call 60; refine (HIT.out _ hpi3).mono ?_; rintro e w6 ⟨v6, rfl, hn6, hpb6, hbx6⟩))
    go_ret
    exact PPost.later ⟨_, rfl, hn6, hpb6, hbx6⟩ hx3 (fun k h => h.elim)
  | true =>
    simp only [skipIf, if_true] at hn
    have HS2 := Lib.hid (fun q W (h : PBox W q ⟨nl, true⟩) => skip_any q ⟨nl, true⟩ [226, 141, 180] W h)
    generalize skipP ⟨nl, true⟩ [226, 141, 180] = sp2 at *
    obtain ⟨q2, p2⟩ := sp2
    simp only at hn HS2
    subst hn
    unfold strV at HS2
    go_enter Tryz.func32, Tryz.ntmps32
    go_wp2_with (first
      | (go_at_call 57; have hH := HS; clear HS; refine hH.out.mono ?_; rintro e w1 ⟨rfl, hpb1, hbx1⟩; have hpi1 := HIN.out.bx hbx1 hpb1; obtain ⟨c2, d2, f2, f3⟩ := hpb1.facts; have b1lt := Box.lt hpb1; unfold strV at c2)
      | (go_at_call 59; have hq : PIn w0 w1.heap.size p (w1.alloc (.cells #[.string ⟨p.left.toArray⟩, .bool p.ok] 69)) := ⟨hpi1.hb0.trans ((bl_alloc (Below.refl _ _) _).mono hpi1.hb0.size), hpi1.hb0.size, Box.new _ _ _⟩; refine (HNP.out _ _ hq).mono ?_; rintro e w3 ⟨v, rfl, hv, hpq3, hbx3⟩; obtain ⟨A3, c3, rfl⟩ := hv.form; obtain ⟨c4, d4, f4, f5⟩ := hpq3.facts; simp only at c4 d4; have hx3 := ((hbx1.alloc (.cells #[.string ⟨p.left.toArray⟩, .bool p.ok] 69)).new hbx3 hbx1.size); have hpb3 := (PBox.below hpb1 (bl_alloc (Below.refl _ _) (.cells #[.string ⟨p.left.toArray⟩, .bool p.ok] 69))).bx hbx3 (by omega); have hpi3 := HIN.out.bx hx3 hpb3)
      | (go_at_call 57; refine (HS2.out _ _ hpq3).mono ?_; rintro e w4 ⟨rfl, hpq4, hbx4⟩; have hx4 := hx3.new hbx4 hbx1.size; have hpi4 := HIN.out.bx hx4 (hpb3.bx hbx4 (by omega)))
      | (go_at_call 60; refine (HIT.out _ hpi4).mono ?_; rintro e w6 ⟨v6, rfl, hn6, hpb6, hbx6⟩))
    go_ret
    exact PPost.later ⟨_, rfl, hn6, hpb6, hbx6⟩ hx4 (fun k h => h.elim)
end Go.Proofs.T
namespace Go.Proofs.T
open Go.RowKit
theorem skipP_ok (p : PS) (t : List UInt8) : (skipP p t).2.ok = p.ok := by
  unfold skipP
  split <;> rfl
/-- What the loop over a shape's numbers knows; B: the heap's size where it began. -/
structure SRel (w0 wL : World) (b : Nat) (lq : List UInt8) (l : List Dec) (k : Nat) (okk : Bool) (done : List Int) (wr : World) : Prop where
  hb0 : Below w0.heap.size w0 wr
  box : PBox wr b ⟨lq, okk⟩
  bx : Bx b wL wr
  want : (done ++ (wholesP (l.drop k) okk).1, (wholesP (l.drop k) okk).2) = wholesP l true
  len : done.length = k
set_option maxHeartbeats 4000000 in
set_option maxRecDepth 100000 in
/-- array, where a shape stands. -/
theorem array_shape (w0 : World) (hG : Glob w0) (b M d : Nat) (hd16 : d ≤ 15) (hM : M ≤ 100000000) (hK : KidC w0 M d) (hB : ∀ k p, p.left.length ≤ M → ABd (2 * M + 1) 0 p (kidsP (arrayP d) (decide (0 < d)) k p)) (p : PS) (w : World) (hin : PIn w0 b p w) (hp : p.left.length ≤ M) (hs : (skipP p [226, 138, 130]).1 = false) (hn : (skipIf (numbersP p).2.ok (numbersP p).2 [226, 141, 180]).ok = true) :
    Calls Tryz.prog 32 #[.pointer (some ⟨b, 0, none⟩), .int .i64 ((d : Int) + 1)] w (PPost (fun _ => False) b (itemsP (kidsP (arrayP d) (decide (0 < d))) (wholesP (numbersP p).1 true).1 ⟨(skipIf (numbersP p).2.ok (numbersP p).2 [226, 141, 180]).left, (wholesP (numbersP p).1 true).2⟩) w) := by
  have hblt := Box.lt hin.box
  have hsk := skip_any b p [226, 138, 130] w hin.box
  have hsp : skipP p [226, 138, 130] = (false, p) := by
    unfold skipP at hs ⊢
    split
    · next h => rw [if_pos h] at hs; cases hs
    · rfl
  rw [hsp] at hsk
  have HS := Lib.hid hsk
  have HNP := Lib.hid (fun q W h => numbersP_any q p w0 W h hG (by omega))
  have hbd := readN_bd p.left
  have hnp : (numbersP p).1 = (readN p.left).1 ∧ (numbersP p).2.left = (readN p.left).2.1 := ⟨rfl, rfl⟩
  rw [← hnp.1, ← hnp.2] at hbd
  clear hnp
  generalize numbersP p = np at *
  obtain ⟨l, np⟩ := np
  simp only at HNP hn hbd
  have hwb := wholesP_bd l true hbd.1
  obtain ⟨nl, nok⟩ := np
  simp only at hn hbd
  obtain rfl : nok = true := by
    cases nok with
    | true => rfl
    | false => simp [skipIf] at hn
  have hs2 := skipP_le ⟨nl, true⟩ [226, 141, 180]
  have hpo := skipP_ok ⟨nl, true⟩ [226, 141, 180]
  simp only [skipIf, if_true] at hn ⊢
  have HS2 := Lib.hid (fun q W (h : PBox W q ⟨nl, true⟩) => skip_any q ⟨nl, true⟩ [226, 141, 180] W h)
  generalize skipP ⟨nl, true⟩ [226, 141, 180] = sp2 at *
  obtain ⟨q2, lq, po⟩ := sp2
  simp only at hn HS2 hs2 hpo ⊢
  subst hn
  subst hpo
  have HIT := Lib.hid (fun W c A (ok : Nat → Prop) hok hc (h : PIn w0 b ⟨lq, (wholesP l true).2⟩ W) (hS : Rd Ly.i64 W ok A (wholesP l true).1.length (wholesP l true).1) => itemsC_any w0 hG b M d (by omega) hM hK hB (wholesP l true).1 hwb.1 (by omega) A c hc ok hok ⟨lq, (wholesP l true).2⟩ W h (by simp only; omega) hS)
  generalize itemsP (kidsP (arrayP d) (decide (0 < d))) (wholesP l true).1 ⟨lq, (wholesP l true).2⟩ = r at *
  have HIN := Lib.hid hin
  have HD := Lib.hid hbd.1
  have hll : l.length ≤ 100000001 := by omega
  clear hK hB hin hsk hsp hs hbd hs2
  unfold strV at HS HS2
  go_enter Tryz.func32, Tryz.ntmps32
  go_wp2_with (first
    | (go_at_call 57; have hH := HS; clear HS; refine hH.out.mono ?_; rintro e w1 ⟨rfl, hpb1, hbx1⟩; have hpi1 := HIN.out.bx hbx1 hpb1; obtain ⟨c2, d2, f2, f3⟩ := hpb1.facts; have b1lt := Box.lt hpb1; unfold strV at c2)
    | (go_at_call 59; have hq : PIn w0 w1.heap.size p (w1.alloc (.cells #[.string ⟨p.left.toArray⟩, .bool p.ok] 69)) := ⟨hpi1.hb0.trans ((bl_alloc (Below.refl _ _) _).mono hpi1.hb0.size), hpi1.hb0.size, Box.new _ _ _⟩; refine (HNP.out _ _ hq).mono ?_; rintro e w3 ⟨v, rfl, hv, hpq3, hbx3⟩; obtain ⟨A3, c3, rfl⟩ := hv.form; obtain ⟨c4, d4, f4, f5⟩ := hpq3.facts; simp only at c4 d4; have hx3 := ((hbx1.alloc (.cells #[.string ⟨p.left.toArray⟩, .bool p.ok] 69)).new hbx3 hbx1.size); have hpb3 := (PBox.below hpb1 (bl_alloc (Below.refl _ _) (.cells #[.string ⟨p.left.toArray⟩, .bool p.ok] 69))).bx hbx3 (by omega))
    | (go_at_call 57; refine (HS2.out _ _ hpq3).mono ?_; rintro e w4 ⟨rfl, hpq4, hbx4⟩; have hx4 := hx3.new hbx4 hbx1.size; have hpb4 := hpb3.bx hbx4 (by omega); have hpi4 := HIN.out.bx hx4 hpb4; obtain ⟨c6, d6, f6, f7⟩ := hpq4.facts; obtain ⟨c8, d8, f8, f9⟩ := hpb4.facts; have b4lt := Box.lt hpb4; simp only at c6 d6; unfold strV at c6))
  have hpbL := hpb4.put lq true
  have hxL := (hx4.set 0 (.string ⟨lq.toArray⟩)).set 1 (.bool true)
  have hvL := ((hv.bx (by decide) hbx4 (by simp)).bx (by decide) (((Bx.refl b w4).set 0 (.string ⟨lq.toArray⟩)).set 1 (.bool true)) (by simp; omega)).at
  have hBb : b < (w1.alloc (.cells #[.string ⟨p.left.toArray⟩, .bool p.ok] 69)).heap.size := by simp; omega
  have hb0L := (HIN.out.bx hxL hpbL).hb0
  unfold strV at hpbL
  have hRL := Lib.hid hvL.2.2
  clear hvL hv hpq4 hpb4 hpi4 c6 d6 f6 f7 c8 d8 f8 f9 hx4 hx3 hpq3 hpb3 c4 d4 f4 f5
  generalize ((w4.setCell ⟨b, 0, none⟩ (.string ⟨lq.toArray⟩)).setCell ⟨b, 1, none⟩ (.bool true)) = wL at *
  have hw0 := hxL.size
  go_loopg [7, 35] l.length (fun gg v7 i wr => ∃ (k : Nat) (okk : Bool) (done : List Int) (v : Value), k ≤ l.length ∧ gg = l.length - k ∧ i = .int .i64 k ∧ v = v7 ∧ wr.ownsRow wL.heap.size 3 1 v k (done.map (Value.int .i64)) ∧ Hid (SRel w0 wL b lq l k okk done wr))
  case atStart => exact ⟨0, true, [], _, by omega, by omega, rfl, rfl, World.ownsRow_nil _ _ _ _, ⟨hb0L, hpbL, Bx.refl _ _, rfl, rfl⟩⟩
  case round =>
    obtain ⟨k, okk, done, v, hk, rfl, rfl, rfl, hown, HR⟩ := hrel
    obtain ⟨A0, c0, rfl⟩ := own_form hown
    have hbL2 := Box.lt hpbL
    by_cases hlt : k < l.length
    · obtain ⟨bb, o, hA, _⟩ := hRL.out.row (by omega)
      subst hA
      obtain ⟨e0, e1⟩ := (hRL.out.move (by decide) fun j hj hlt2 => HR.out.bx.block j (by omega) hlt2).atD k hlt
      have hxk := HD.out l[k] (List.getElem_mem hlt)
      have hd := List.drop_eq_getElem_cons hlt
      have hwant := HR.out.want
      rw [hd] at hwant
      simp only [wholesP] at hwant
      generalize l[k] = x at e0 e1 hxk hd hwant
      have hw := whole_any x.man x.exp hxk.1 hxk.2
      generalize wholeD x.man x.exp = wd at hw hwant
      obtain ⟨q1, q2⟩ := wd
      simp only at hw hwant
      have HW := Lib.hid hw; have HWT := Lib.hid hwant
      have hbx := HR.out.box
      have hlen := Lib.hid HR.out.len
      have hwr := HR.out.bx.size
      obtain ⟨i0, hi, hz0, hz1, hz2⟩ := info_parts info3
      clear hw hwant hd hxk
      cases okk with
      | true =>
        go_wp2_with (go_at_call 19; refine (HW.out _).mono ?_; rintro e w5 ⟨rfl, hb5⟩)
        have hpb5 := PBox.below (PBox.below hbx (bl_alloc (Below.refl _ _) (.cells #[.int .i64 x.man, .int .i64 x.exp] 39))) hb5
        obtain ⟨_, d5, _, f5⟩ := hpb5.facts
        have b5lt := Box.lt hpb5
        have ho5 := (own_below (hown.alloc (.cells #[.int .i64 x.man, .int .i64 x.exp] 39)) hb5).drew
        have hz5 : wL.heap.size ≤ w5.heap.size := by have := hb5.size; simp at this; omega
        have hbx5 := (HR.out.bx.alloc (.cells #[.int .i64 x.man, .int .i64 x.exp] 39)).bl hb5
        simp only at d5
        first | go_region_law (refine step_append_lies _ rfl (.tmp 45) (.tmp 47) 25 rfl wL.heap.size 3 i0 (.int .i64 0) 1 8 Tryz.underlying25 hi hz0 hz1 hz2 rfl (by decide) (.slice A0 k c0) k (done.map (Value.int .i64)) rfl (ho5.alloc (.cells #[.int .i64 q1] 3)) ⟨w5.heap.size, 0, none⟩ 1 1 [.int .i64 q1] (by go_simp) rfl (World.news_of_block (cs := #[.int .i64 q1]) (t := 3) (fr := (0, 0)) (heap_alloc_new _ _)) (one_int _) (by decide) (by simp only [maxLen]; omega) (by omega) (by simp; omega) _ rfl ?_; intro g cap w6 hown6 hg6 hat6 hlt6; have hpb6 : PBox w6 b ⟨lq, true⟩ := Box.grown (Box.alloc (Box.drew hpb5) _) hg6 (fun e => by have := own_base hown b e; omega); obtain ⟨_, d6, _, f6⟩ := hpb6.facts; have b6lt := Box.lt hpb6; simp only at d6) | fail
        all_goals
          have hbx6 : Bx b wL w6 := Bx.grown ((hbx5.alloc (.cells #[.int .i64 q1] 3)).drew) hg6 (fun j e => own_base hown j e)
          have hbx7 := hbx6.set 1 (.bool q2)
          go_wp2
          go_roundg (l.length - (k + 1))
          case measure => omega
          case rel => exact ⟨k + 1, q2, done ++ [q1], _, by omega, rfl, by go_num, rfl, by rw [List.map_append]; exact own_bx hown6 ((Bx.refl b w6).set 1 _) hbL2, ⟨(HIN.out.bx (hxL.trans hbx7) (hpb6.put1 _)).hb0, hpb6.put1 _, hbx7, by rw [← HWT.out]; simp, by rw [List.length_append, hlen.out]; rfl⟩⟩
      | false =>
        go_wp2_with (go_at_call 19; refine (HW.out _).mono ?_; rintro e w5 ⟨rfl, hb5⟩)
        have hpb5 := PBox.below (PBox.below hbx (bl_alloc (Below.refl _ _) (.cells #[.int .i64 x.man, .int .i64 x.exp] 39))) hb5
        obtain ⟨_, d5, _, f5⟩ := hpb5.facts
        have b5lt := Box.lt hpb5
        have ho5 := (own_below (hown.alloc (.cells #[.int .i64 x.man, .int .i64 x.exp] 39)) hb5).drew
        have hz5 : wL.heap.size ≤ w5.heap.size := by have := hb5.size; simp at this; omega
        have hbx5 := (HR.out.bx.alloc (.cells #[.int .i64 x.man, .int .i64 x.exp] 39)).bl hb5
        simp only at d5
        first | go_region_law (refine step_append_lies _ rfl (.tmp 45) (.tmp 47) 25 rfl wL.heap.size 3 i0 (.int .i64 0) 1 8 Tryz.underlying25 hi hz0 hz1 hz2 rfl (by decide) (.slice A0 k c0) k (done.map (Value.int .i64)) rfl (ho5.alloc (.cells #[.int .i64 q1] 3)) ⟨w5.heap.size, 0, none⟩ 1 1 [.int .i64 q1] (by go_simp) rfl (World.news_of_block (cs := #[.int .i64 q1]) (t := 3) (fr := (0, 0)) (heap_alloc_new _ _)) (one_int _) (by decide) (by simp only [maxLen]; omega) (by omega) (by simp; omega) _ rfl ?_; intro g cap w6 hown6 hg6 hat6 hlt6; have hpb6 : PBox w6 b ⟨lq, false⟩ := Box.grown (Box.alloc (Box.drew hpb5) _) hg6 (fun e => by have := own_base hown b e; omega); obtain ⟨_, d6, _, f6⟩ := hpb6.facts; have b6lt := Box.lt hpb6; simp only at d6) | fail
        all_goals
          have hbx6 : Bx b wL w6 := Bx.grown ((hbx5.alloc (.cells #[.int .i64 q1] 3)).drew) hg6 (fun j e => own_base hown j e)
          have hbx7 := hbx6.set 1 (.bool false)
          go_wp2
          go_roundg (l.length - (k + 1))
          case measure => omega
          case rel => exact ⟨k + 1, false, done ++ [q1], _, by omega, rfl, by go_num, rfl, by rw [List.map_append]; exact own_bx hown6 ((Bx.refl b w6).set 1 _) hbL2, ⟨(HIN.out.bx (hxL.trans hbx7) (hpb6.put1 _)).hb0, hpb6.put1 _, hbx7, by rw [← HWT.out]; simp, by rw [List.length_append, hlen.out]; rfl⟩⟩
    · have hkn : k = l.length := by omega
      have hR := HR.out
      have hwant := hR.want
      rw [hkn, List.drop_length] at hwant
      simp only [wholesP, List.append_nil] at hwant
      have hd1 : done = (wholesP l true).1 := by rw [← hwant]
      have ho1 : okk = (wholesP l true).2 := by rw [← hwant]
      have hbx := hR.bx
      have hsl : SlF Ly.i64 wr wL.heap.size (.slice A0 k c0) (wholesP l true).1 := by
        rw [← hd1]
        exact SlF.ofI (by rw [hR.len]; exact hown) (by rw [hR.len]; omega)
      have hat := hsl.at
      have hcal := HIT.out wr c0 A0 (fun j => wL.heap.size ≤ j) (fun j hj => by omega) hat.2.1 (HIN.out.bx (hxL.trans hbx) (by rw [← ho1]; exact hR.box)) hat.2.2
      rw [← hat.1] at hcal
      have HC := Lib.hid hcal
      have HX := Lib.hid (hxL.trans hbx)
      clear hcal hat hsl hd1 ho1 hwant hR HR hbx hown hkn
      go_wp2_with (go_at_call 60; refine HC.out.mono ?_; rintro e w8 ⟨v8, rfl, hn8, hp8, hx8⟩)
      go_ret
      exact PPost.later ⟨_, rfl, hn8, hp8, hx8⟩ HX.out (fun j hj => .inr (Nat.le_trans hw0 hj))
end Go.Proofs.T
namespace Go.Proofs.T
open Go.RowKit
theorem arr_all (w0 : World) (hG : Glob w0) (M : Nat) (hM : M ≤ 100000000) : ∀ d, d ≤ 15 → KidC w0 M d ∧ ArrC w0 M (d + 1) := by
  have hB : ∀ d p, p.left.length ≤ M → ABd (2 * M + 1) 1 p (arrayP d p) := fun d p hp => arrayP_bd (N := 2 * M + 1) (Nat.le_refl _) hM d p hp
  have hKB : ∀ d k p, p.left.length ≤ M → ABd (2 * M + 1) 0 p (kidsP (arrayP d) (decide (0 < d)) k p) := fun d k p hp => kidsP_bd (hB d) _ k p hp
  have step : ∀ d, d ≤ 15 → KidC w0 M d → ArrC w0 M (d + 1) := fun d hd hK b p w hin hp => by
    rw [show (((d + 1 : Nat)) : Int) = (d : Int) + 1 by omega]
    unfold arrayP
    split
    · next h => exact array_alone w0 b M d hd hM hK (hKB d) p w hin hp h
    · next h =>
      have h := eq_false_of_ne_true h
      split
      · next h2 => exact array_shape w0 hG b M d hd hM hK (hKB d) p w hin hp h h2
      · next h2 => exact array_plain w0 hG b M d hd hM hK (hKB d) p w hin hp h (eq_false_of_ne_true h2)
  have kid : ∀ d, d ≤ 16 → (0 < d → ArrC w0 M d) → KidC w0 M d := fun d hd hA b count p w hc hin hp => kidsC_any w0 b M d count hM hA (hB d) hc p w hin hp
  intro d
  induction d with
  | zero => exact fun _ => ⟨kid 0 (by omega) (fun h => by omega), step 0 (by omega) (kid 0 (by omega) (fun h => by omega))⟩
  | succ d ih =>
    intro hd
    have h1 := kid (d + 1) (by omega) (fun _ => (ih (by omega)).2)
    exact ⟨h1, step (d + 1) hd h1⟩
end Go.Proofs.T
namespace Go.Proofs.T
open Go.RowKit
theorem headT_le {N : Nat} (n : Node) (h : NBd N n) : (headT n).length ≤ 24 * N + 3 := by
  have := intsT_len n.shape h.1.shape
  have := h.2.1
  unfold headT
  split
  · rw [List.length_append]; simp only [List.length_cons, List.length_nil]; omega
  · split <;> simp
theorem valueT_le {N : Nat} (n : Node) (h : NBd N n) : (valueT n).length ≤ 51 * N + 2 := by
  obtain ⟨h0, h1, h2, h3⟩ := h
  unfold valueT
  split
  · unfold quoteT
    split
    · have := quoteL_len n.ints
      simp; omega
    · simp
  · split
    · unfold decsT
      split
      · simp
      · refine Nat.le_trans (join_le 50 _ fun l hl => ?_) (by rw [List.length_map]; omega)
        obtain ⟨d, hd, rfl⟩ := List.mem_map.1 hl
        exact decT_len d (h0.decs d hd)
    · split
      · simp
      · have := intsT_len n.ints h0.ints
        omega
theorem flat_len {K f : Nat} : ∀ (ks : List (List Node)), (∀ k ∈ ks, (textN f k).length + 2 ≤ k.length * K) → (ks.flatMap fun k => [40] ++ textN f k ++ [41]).length ≤ ks.flatten.length * K
  | [], _ => by simp
  | k :: ks, h => by
    have h1 := h k (by simp)
    have h2 := flat_len ks fun k hk => h k (List.mem_cons_of_mem _ hk)
    rw [List.flatMap_cons, List.flatten_cons]
    simp only [List.length_append, List.length_cons, List.length_nil, Nat.add_mul] at *
    omega
theorem textN_le {N : Nat} : ∀ (f : Nat) (a : List Node), a.length ≤ f → rightA a = true → (∀ n ∈ a, NBd N n) → (textN f a).length + 2 ≤ a.length * (75 * N + 7)
  | 0, a, hf, hr, _ => by have := ((rightA_iff a).1 hr).1; omega
  | f + 1, [], hf, hr, _ => by have := ((rightA_iff []).1 hr).1; simp at this
  | f + 1, n :: rest, hf, hr, hn => by
    have h1 := headT_le n (hn n (by simp))
    have h2 := valueT_le n (hn n (by simp))
    unfold textN
    by_cases h5 : n.kind = 5
    · rw [if_pos h5]
      have hK := KidsC.of hr h5
      have hsp := kidsL_spec (rest.length + 1) (itemsN n) rest (by omega) hK.2
      have h3 := flat_len (K := 75 * N + 7) (f := f) (kidsL (rest.length + 1) rest) fun k hk => by
        have h6 := hsp.2.2 k hk
        have hm : ∀ x ∈ k, x ∈ rest := fun x hx => by rw [← hsp.2.1]; exact List.mem_flatten.2 ⟨k, hk, hx⟩
        simp only [List.length_cons] at hf
        exact textN_le f k (by omega) h6.1 (fun x hx => hn x (List.mem_cons_of_mem _ (hm x hx)))
      rw [hsp.2.1] at h3
      rw [List.length_append, List.length_cons, Nat.succ_mul]
      omega
    · rw [if_neg h5]
      obtain ⟨_, rfl⟩ := right_one hr h5
      rw [List.length_append]
      simp only [List.length_cons, List.length_nil]
      omega
theorem tight_right {a : List Node} (h : tightN a = true) : rightA a = true := by unfold tightN at h; simp at h; exact h.1
/-- What Parse hands back. -/
theorem arrayP_top (s : List UInt8) (hl : s.length ≤ 500000) : (∀ n ∈ (arrayP 16 ⟨s, true⟩).1, NBd 1000001 n) ∧ (arrayP 16 ⟨s, true⟩).1.length ≤ 500001 ∧ (tightN (arrayP 16 ⟨s, true⟩).1 = true → (textN (arrayP 16 ⟨s, true⟩).1.length (arrayP 16 ⟨s, true⟩).1).length ≤ 140737488355328) := by
  have h := arrayP_bd (M := 500000) (N := 1000001) (by omega) (by omega) 16 ⟨s, true⟩ hl
  have h2 := h.len
  simp only at h2
  refine ⟨h.nodes, by omega, fun ht => ?_⟩
  have h3 := textN_le _ _ (Nat.le_refl _) (tight_right ht) h.nodes
  have h4 : (arrayP 16 ⟨s, true⟩).1.length * (75 * 1000001 + 7) ≤ 500001 * (75 * 1000001 + 7) := Nat.mul_le_mul_right _ (by omega)
  omega
theorem SlF.ofN {w : World} {B : Nat} {v : Value} {xs : List Node} {cs : List Value} (h : w.ownsRow B 28 4 v xs.length cs) (hp : Parts lNode w (okF (fun _ => False) B v) xs cs) (hm : xs.length ≤ 1000000000) : SlF lNode w B v xs := by
  obtain ⟨A, c, rfl⟩ := own_form h
  have := own_rd h hp rfl hm
  exact ⟨A, c, rfl, this.1, this.2.mono (by decide) fun k hk _ => hk.elim (fun h => h.elim) id⟩
set_option maxHeartbeats 4000000 in
set_option maxRecDepth 100000 in
theorem parse_any (s : List UInt8) (w : World) (hG : Glob w) (hl : s.length ≤ 500000) : Calls Tryz.prog 13 #[strV s] w fun e w' => ∃ v, e = .returned (.tuple #[v, .bool (parseN s).2]) ∧ SlF lNode w' w.heap.size v (parseN s).1 ∧ Below w.heap.size w w' := by
  have htop := arrayP_top s hl
  have HA := Lib.hid (fun W (h : PIn w w.heap.size ⟨s, true⟩ W) => (arr_all w hG 500000 (by omega) 15 (by omega)).2 w.heap.size ⟨s, true⟩ W h hl)
  unfold parseN
  generalize arrayP 16 ⟨s, true⟩ = r at *
  obtain ⟨a, left, okk⟩ := r
  simp only at htop ⊢
  have hno : NodesOk a := fun n hn => (htop.1 n hn).1
  have hio : InOk a := fun n hn => by have := htop.1 n hn; exact ⟨by have := this.2.1; omega, by have := this.2.2.1; omega, by have := this.2.2.2; omega⟩
  have HT := Lib.hid (fun W (hW : Below w.heap.size w W) A c (ok : Nat → Prop) (hc : a.length ≤ c) (hR : Rd lNode W ok A a.length a) => text_any A c a ok W hR hc hno hio (by omega) (hG.below hW) htop.2.2)
  have hal := htop.2.1
  have HG := Lib.hid hG
  clear htop hno hio hG
  have HPI : Hid (PIn w w.heap.size ⟨s, true⟩ (w.alloc (.cells #[.string ⟨s.toArray⟩, .bool true] 69))) := ⟨bl_alloc (Below.refl _ _) _, Nat.le_refl _, Box.new _ _ _⟩
  rw [show ((15 + 1 : Nat) : Int) = 16 from rfl] at HA
  have fin : ∀ W, Bx w.heap.size (w.alloc (.cells #[.string ⟨s.toArray⟩, .bool true] 69)) W → Below w.heap.size w W := fun W h => (bl_alloc (Below.refl _ _) _).trans (h.below (Nat.le_refl _) (by simp))
  have FIN := Lib.hid fin
  clear fin
  unfold strV
  cases okk with
  | false =>
    rw [if_neg (by simp)]
    go_enter Tryz.func13, Tryz.ntmps13
    go_wp2_with (go_at_call 32; refine (HA.out _ HPI.out).mono ?_; rintro e w2 ⟨v, rfl, ⟨cs, ho, hp⟩, hpb, hbx⟩; obtain ⟨A2, c2, rfl⟩ := own_form ho; obtain ⟨d0, d1, f0, f1⟩ := hpb.facts; simp only at d0 d1)
    go_ret2
    exact ⟨_, rfl, SlF.nil _ _ _, FIN.out _ hbx⟩
  | true =>
    by_cases hle : left = []
    · subst hle
      generalize notT a = t at HT ⊢
      unfold strV at HT
      by_cases hts : t = s
      · rw [if_pos ⟨rfl, rfl, hts⟩]
        subst hts
        have k1 : (t != t) = false := by simp
        go_enter Tryz.func13, Tryz.ntmps13
        go_wp2_with (first
          | (go_at_call 32; refine (HA.out _ HPI.out).mono ?_; rintro e w2 ⟨v, rfl, ⟨cs, ho, hp⟩, hpb, hbx⟩; obtain ⟨A2, c2, rfl⟩ := own_form ho; obtain ⟨d0, d1, f0, f1⟩ := hpb.facts; simp only at d0 d1; unfold strV at d0; have hsl := SlF.ofN ho hp (by simp only; omega); have hat := Lib.hid hsl.at)
          | (go_at_call 11; refine (HT.out _ (FIN.out _ hbx) A2 c2 _ hat.out.2.1 hat.out.2.2).mono ?_; rintro e w3 ⟨rfl, hb3⟩))
        go_ret2
        exact ⟨_, rfl, SlF.low (by decide) ((SlF.bx (b := w.heap.size) (by decide) hsl (Bx.of hb3) (by simp))) (by simp), bl_trans hb3 (FIN.out _ hbx)⟩
      · have k1 : (t == s) = false := by simpa using hts
        rw [if_neg (by simp [hts])]
        clear hts
        go_enter Tryz.func13, Tryz.ntmps13
        go_wp2_with (first
          | (go_at_call 32; refine (HA.out _ HPI.out).mono ?_; rintro e w2 ⟨v, rfl, ⟨cs, ho, hp⟩, hpb, hbx⟩; obtain ⟨A2, c2, rfl⟩ := own_form ho; obtain ⟨d0, d1, f0, f1⟩ := hpb.facts; simp only at d0 d1; unfold strV at d0; have hsl := SlF.ofN ho hp (by simp only; omega); have hat := Lib.hid hsl.at)
          | (go_at_call 11; refine (HT.out _ (FIN.out _ hbx) A2 c2 _ hat.out.2.1 hat.out.2.2).mono ?_; rintro e w3 ⟨rfl, hb3⟩))
        go_ret2
        exact ⟨_, rfl, SlF.nil _ _ _, bl_trans hb3 (FIN.out _ hbx)⟩
    · have k1 : left.isEmpty = false := by simpa using hle
      rw [if_neg (by simp [hle])]
      clear hle
      go_enter Tryz.func13, Tryz.ntmps13
      go_wp2_with (go_at_call 32; refine (HA.out _ HPI.out).mono ?_; rintro e w2 ⟨v, rfl, ⟨cs, ho, hp⟩, hpb, hbx⟩; obtain ⟨A2, c2, rfl⟩ := own_form ho; obtain ⟨d0, d1, f0, f1⟩ := hpb.facts; simp only at d0 d1; unfold strV at d0)
      go_ret2
      exact ⟨_, rfl, SlF.nil _ _ _, FIN.out _ hbx⟩
end Go.Proofs.T
