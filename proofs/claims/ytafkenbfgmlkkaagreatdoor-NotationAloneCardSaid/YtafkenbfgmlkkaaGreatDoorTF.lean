/- NotationNests holds for every input: the notation of a tight nest is made of its kids'; under the row's own conditions (the listed package variables as the program lays them). Part 6 of 6: the contracts of the functions that it reaches, and plain lemmas. -/
import Derived.Test.YtafkenbfgmlkkaaGreatDoorTE
import Derived.Deep.Slices
import Derived.ChangeArms
import Derived.Lib.LaidU8T
import Derived.Stop.LaidErr
import Derived.PinnedBridge
import Derived.LaidMore
import Derived.Lay
import Derived.Stop.Joined
import Derived.HandedShaped
import Derived.Shelf.Vars
import Derived.ProofKit
import Derived.Test.YtafkenbfgmlkkaaGreatDoorRows
import Derived.SizedLaws
import Derived.SevenTiedAt
import Derived.OpenShut
import Derived.Test.YtafkenbfgmlkkaaGreatDoorCards
import Derived.Test.YtafkenbfgmlkkaaGreatDoorTie
set_option linter.unusedVariables false
set_option linter.unusedSimpArgs false
namespace Go.Proofs.T
open Go.RowKit
/-! deckleref01.Same -/
set_option maxHeartbeats 2000000 in
theorem rI_lens (A B : Option Addr) (n m c d : Nat) (w : World) (h : n ≠ m) : Calls Tryz.prog 61 #[.slice A n c, .slice B m d] w fun e w' => e = .returned (.bool false) ∧ w = w' := by
  have k1 : ((n : Int) != (m : Int)) = true := by simp; omega
  go_enter Tryz.func61, Tryz.ntmps61
  go_wp2
  go_ret
  exact ⟨rfl, rfl⟩
set_option maxHeartbeats 4000000 in
theorem rI_same (A B : Option Addr) (c d : Nat) (xs ys : List Int) (ok ok2 : Nat → Prop) (w : World) (h1 : Rd Ly.i64 w ok A xs.length xs) (h2 : Rd Ly.i64 w ok2 B ys.length ys) (hl : ys.length = xs.length) :
    Calls Tryz.prog 61 #[.slice A xs.length c, .slice B xs.length d] w fun e w' => e = .returned (.bool (xs == ys)) ∧ Below w.heap.size w w' := by
  have k1 : ((xs.length : Int) != (xs.length : Int)) = false := by simp
  have hm := h1.max
  have H1 := Lib.hid h1; have H2 := Lib.hid h2; have HL := Lib.hid hl
  clear h1 h2 hl
  go_enter Tryz.func61, Tryz.ntmps61
  go_wp2
  go_loopg [5] xs.length (fun gg i wr => ∃ k : Nat, k ≤ xs.length ∧ gg = xs.length - k ∧ i = .int .i64 k ∧ Hid (xs.take k = ys.take k) ∧ Below w.heap.size w wr)
  case atStart => exact ⟨0, by omega, by omega, rfl, rfl, Below.refl _ _⟩
  case round =>
    obtain ⟨k, hk, rfl, rfl, heq, hb⟩ := hrel
    by_cases hlt : k < xs.length
    · have hlt2 : k < ys.length := by rw [HL.out]; exact hlt
      obtain ⟨b1, o1, hA, _⟩ := H1.out.row (by omega)
      subst hA
      obtain ⟨b2, o2, hB, _⟩ := H2.out.row (by omega)
      subst hB
      have e0 := (H1.out.below (by decide) hb).at1 k hlt
      have e2 := (H2.out.below (by decide) hb).at1 k hlt2
      have hst : Hid (∀ h : xs[k] = ys[k], xs.take (k + 1) = ys.take (k + 1)) := fun h => take_eq_succ hlt hlt2 heq.out h
      have hno : Hid (xs[k] ≠ ys[k] → (xs == ys) = false) := fun h => beq_eq_false_iff_ne.2 fun h' => h (by subst h'; rfl)
      generalize xs[k] = x at e0 hst hno
      generalize ys[k] = y at e2 hst hno
      clear hlt2
      have hb' : Below w.heap.size w wr.drew := bl_drew hb
      have E0 : wr.drew.cell? ⟨b1, o1 + k, none⟩ = some (.int .i64 x) := e0
      have E2 : wr.drew.cell? ⟨b2, o2 + k, none⟩ = some (.int .i64 y) := e2
      by_cases hxy : x = y
      · subst hxy
        have k2 : (x != x) = false := by simp
        go_wp2
        go_region_held3 (fun w' => Below w.heap.size w w' ∧ w'.cell? ⟨b1, o1 + k, none⟩ = some (.int .i64 x) ∧ w'.cell? ⟨b2, o2 + k, none⟩ = some (.int .i64 x))
          (refine ⟨?_, ?_, ?_⟩ <;> with_reducible assumption)
          (fail)
        go_wp2
        go_roundg (xs.length - (k + 1))
        case measure => omega
        case rel => exact ⟨k + 1, by omega, rfl, by go_num, hst.out (by first | rfl | trivial), hb'⟩
      · have k2 : (x != y) = true := by simpa using hxy
        go_wp2
        go_region_held3 (fun w' => Below w.heap.size w w' ∧ w'.cell? ⟨b1, o1 + k, none⟩ = some (.int .i64 x) ∧ w'.cell? ⟨b2, o2 + k, none⟩ = some (.int .i64 y))
          (refine ⟨?_, ?_, ?_⟩ <;> with_reducible assumption)
          (fail)
        go_wp2
        go_ret
        exact ⟨by rw [hno.out hxy]; rfl, hb'⟩
    · have hkn : k = xs.length := by omega
      subst hkn
      have hfin : Hid ((xs == ys) = true) := by
        have := heq.out
        rw [List.take_length, ← HL.out, List.take_length] at this
        simpa [Hid] using this
      go_wp2
      go_ret
      exact ⟨by rw [hfin.out]; rfl, hb⟩
theorem rI_any (A B : Option Addr) (c d : Nat) (xs ys : List Int) (ok ok2 : Nat → Prop) (w : World) (h1 : Rd Ly.i64 w ok A xs.length xs) (h2 : Rd Ly.i64 w ok2 B ys.length ys) :
    Calls Tryz.prog 61 #[.slice A xs.length c, .slice B ys.length d] w fun e w' => e = .returned (.bool (xs == ys)) ∧ Below w.heap.size w w' := by
  by_cases hl : ys.length = xs.length
  · rw [hl]
    exact rI_same A B c d xs ys ok ok2 w h1 h2 hl
  · refine (rI_lens A B xs.length ys.length c d w (fun h => hl h.symm)).mono ?_
    rintro e w' ⟨rfl, rfl⟩
    exact ⟨by congr 2; exact (beq_eq_false_iff_ne.2 fun h => hl (by rw [h])).symm, Below.refl _ _⟩
/-! deckleref10.One -/
attribute [local go_sem high] eqA39
def eqR (a b : Node) : Bool := (a.decs == b.decs) && (a.kind == b.kind && (a.shape == b.shape && a.ints == b.ints))
theorem eqR_eq (a b : Node) : eqR a b = eqN a b := by
  unfold eqR eqN
  generalize (a.shape == b.shape) = p1
  generalize (a.ints == b.ints) = p2
  generalize (a.decs == b.decs) = p3
  generalize (a.kind == b.kind) = p0
  cases p0 <;> cases p1 <;> cases p2 <;> cases p3 <;> rfl
set_option maxHeartbeats 4000000 in
set_option maxRecDepth 100000 in
theorem one_lens (a b : Node) (A1 A2 A3 B1 B2 B3 : Option Addr) (c1 c2 c3 d1 d2 d3 : Nat) (w : World) (h : a.decs.length ≠ b.decs.length) :
    Calls Tryz.prog 33 #[nodeV a A1 A2 A3 c1 c2 c3, nodeV b B1 B2 B3 d1 d2 d3] w fun e w' => e = .returned (.bool false) ∧ Below w.heap.size w w' := by
  have k1 : ((a.decs.length : Int) != (b.decs.length : Int)) = true := by simp; omega
  unfold nodeV nodeW
  go_enter Tryz.func33, Tryz.ntmps33
  go_wp2
  go_ret
  exact ⟨rfl, bl_alloc (bl_alloc (Below.refl _ _) _) _⟩
set_option maxHeartbeats 4000000 in
set_option maxRecDepth 100000 in
theorem one_same (a b : Node) (A1 A2 A3 B1 B2 B3 : Option Addr) (c1 c2 c3 d1 d2 d3 : Nat) (ok ok2 : Nat → Prop) (w : World) (ha : NodeAt w ok a A1 A2 A3 c1 c2 c3) (hb : NodeAt w ok2 b B1 B2 B3 d1 d2 d3) (hl : b.decs.length = a.decs.length) :
    Calls Tryz.prog 33 #[nodeV a A1 A2 A3 c1 c2 c3, nodeV b B1 B2 B3 d1 d2 d3] w fun e w' => e = .returned (.bool (eqR a b)) ∧ Below w.heap.size w w' := by
  have E1 := Lib.hid (fun W hW => rI_any A1 B1 c1 d1 a.shape b.shape ok ok2 W (ha.r1.below (by decide) (hW : Below w.heap.size w W)) (hb.r1.below (by decide) hW))
  have E2 := Lib.hid (fun W hW => rI_any A2 B2 c2 d2 a.ints b.ints ok ok2 W (ha.r2.below (by decide) (hW : Below w.heap.size w W)) (hb.r2.below (by decide) hW))
  have H1 := Lib.hid ha.r3; have H2 := Lib.hid hb.r3; have HL := Lib.hid hl
  have hm := ha.r3.max
  have k1 : ((a.decs.length : Int) != (a.decs.length : Int)) = false := by simp
  unfold eqR nodeV nodeW
  rw [hl]
  clear ha hb hl
  generalize (a.shape == b.shape) = p1 at E1 ⊢
  generalize (a.ints == b.ints) = p2 at E2 ⊢
  generalize a.decs = xs at *
  generalize b.decs = ys at *
  generalize a.shape.length = n1 at *
  generalize b.shape.length = m1 at *
  generalize a.ints.length = n2 at *
  generalize b.ints.length = m2 at *
  obtain ⟨p0, h0⟩ : ∃ p0, (a.kind == b.kind) = p0 := ⟨_, rfl⟩
  rw [h0]
  go_enter Tryz.func33, Tryz.ntmps33
  go_wp2
  go_loopg [5] xs.length (fun gg i wr => ∃ k : Nat, k ≤ xs.length ∧ gg = xs.length - k ∧ i = .int .i64 k ∧ Hid (xs.take k = ys.take k) ∧ Below w.heap.size w wr ∧ Box wr w.heap.size #[.int .i64 a.kind, .slice A1 n1 c1, .slice A2 n2 c2, .slice A3 xs.length c3] 28 ∧ Box wr (w.heap.size + 1) #[.int .i64 b.kind, .slice B1 m1 d1, .slice B2 m2 d2, .slice B3 xs.length d3] 28)
  case atStart => exact ⟨0, by omega, by omega, rfl, rfl, bl_alloc (bl_alloc (Below.refl _ _) _) _, (Box.new w _ 28).alloc _, by have := Box.new (w.alloc (.cells #[.int .i64 a.kind, .slice A1 n1 c1, .slice A2 n2 c2, .slice A3 xs.length c3] 28)) #[.int .i64 b.kind, .slice B1 m1 d1, .slice B2 m2 d2, .slice B3 xs.length d3] 28; simpa using this⟩
  case round =>
    obtain ⟨k, hk, rfl, rfl, heq, hb, bx1, bx2⟩ := hrel
    have hbx1 := Lib.hid bx1; have hbx2 := Lib.hid bx2
    obtain ⟨⟨t0, t1, t2, t3⟩, _⟩ := bx1.cells
    obtain ⟨⟨u0, u1, u2, u3⟩, _⟩ := bx2.cells
    have z1 := bx1.lt; have z2 := bx2.lt
    clear bx1 bx2
    by_cases hlt : k < xs.length
    · have hlt2 : k < ys.length := by rw [HL.out]; exact hlt
      obtain ⟨b1, o1, hA, _⟩ := H1.out.row (by omega)
      subst hA
      obtain ⟨b2, o2, hB, _⟩ := H2.out.row (by rw [HL.out]; omega)
      subst hB
      obtain ⟨e0, e1⟩ := (H1.out.below (by decide) hb).atD k hlt
      obtain ⟨e2, e3⟩ := (H2.out.below (by decide) hb).atD k hlt2
      have hst : Hid (∀ h : xs[k] = ys[k], xs.take (k + 1) = ys.take (k + 1)) := fun h => take_eq_succ hlt hlt2 heq.out h
      have hno : Hid (xs[k] ≠ ys[k] → (xs == ys) = false) := fun h => beq_eq_false_iff_ne.2 fun h' => h (by subst h'; rfl)
      generalize xs[k] = x at e0 e1 hst hno
      generalize ys[k] = y at e2 e3 hst hno
      clear hlt2
      have hb' : Below w.heap.size w wr.drew := bl_drew hb
      have E0 : wr.drew.cell? ⟨b1, o1 + k * 2, none⟩ = some (.int .i64 x.man) := e0
      have E1' : wr.drew.cell? ⟨b1, o1 + k * 2 + 1, none⟩ = some (.int .i64 x.exp) := e1
      have E2' : wr.drew.cell? ⟨b2, o2 + k * 2, none⟩ = some (.int .i64 y.man) := e2
      have E3 : wr.drew.cell? ⟨b2, o2 + k * 2 + 1, none⟩ = some (.int .i64 y.exp) := e3
      have E4 : wr.drew.cell? ⟨w.heap.size, 3, none⟩ = some (.slice (some ⟨b1, o1, none⟩) xs.length c3) := t3
      have E5 : wr.drew.cell? ⟨w.heap.size + 1, 3, none⟩ = some (.slice (some ⟨b2, o2, none⟩) xs.length d3) := u3
      by_cases hxy : x = y
      · subst hxy
        have k2 : (x.man == x.man && x.exp == x.exp) = true := by simp
        go_wp2
        go_region_held3 (fun w' => Below w.heap.size w w' ∧ w'.cell? ⟨b1, o1 + k * 2, none⟩ = some (.int .i64 x.man) ∧ w'.cell? ⟨b1, o1 + k * 2 + 1, none⟩ = some (.int .i64 x.exp) ∧ w'.cell? ⟨b2, o2 + k * 2, none⟩ = some (.int .i64 x.man) ∧ w'.cell? ⟨b2, o2 + k * 2 + 1, none⟩ = some (.int .i64 x.exp) ∧ w'.cell? ⟨w.heap.size, 3, none⟩ = some (.slice (some ⟨b1, o1, none⟩) xs.length c3) ∧ w'.cell? ⟨w.heap.size + 1, 3, none⟩ = some (.slice (some ⟨b2, o2, none⟩) xs.length d3))
          (refine ⟨?_, ?_, ?_, ?_, ?_, ?_, ?_⟩ <;> with_reducible assumption)
          (fail)
        go_wp2
        go_roundg (xs.length - (k + 1))
        case measure => omega
        case rel => exact ⟨k + 1, by omega, rfl, by go_num, hst.out (by first | rfl | trivial), hb', hbx1.out.drew, hbx2.out.drew⟩
      · have k2 : (x.man == y.man && x.exp == y.exp) = false := by
          rcases x with ⟨a, b⟩; rcases y with ⟨a', b'⟩
          simp only [Dec.mk.injEq, not_and] at hxy
          by_cases h : a = a'
          · simp [hxy h]
          · simp [h]
        go_wp2
        go_region_held3 (fun w' => Below w.heap.size w w' ∧ w'.cell? ⟨b1, o1 + k * 2, none⟩ = some (.int .i64 x.man) ∧ w'.cell? ⟨b1, o1 + k * 2 + 1, none⟩ = some (.int .i64 x.exp) ∧ w'.cell? ⟨b2, o2 + k * 2, none⟩ = some (.int .i64 y.man) ∧ w'.cell? ⟨b2, o2 + k * 2 + 1, none⟩ = some (.int .i64 y.exp) ∧ w'.cell? ⟨w.heap.size, 3, none⟩ = some (.slice (some ⟨b1, o1, none⟩) xs.length c3) ∧ w'.cell? ⟨w.heap.size + 1, 3, none⟩ = some (.slice (some ⟨b2, o2, none⟩) xs.length d3))
          (refine ⟨?_, ?_, ?_, ?_, ?_, ?_, ?_⟩ <;> with_reducible assumption)
          (fail)
        go_wp2
        go_ret
        exact ⟨by rw [hno.out hxy]; rfl, hb'⟩
    · have hkn : k = xs.length := by omega
      subst hkn
      have hfin : Hid ((xs == ys) = true) := by
        have := heq.out
        rw [List.take_length, ← HL.out, List.take_length] at this
        simpa [Hid] using this
      cases p0
      · go_wp2
        go_ret
        exact ⟨by rw [hfin.out]; rfl, hb⟩
      · cases p1
        · go_wp2_with (go_at_call 61; refine (E1.out _ hb).mono ?_; rintro e w1 ⟨rfl, hb1⟩)
          go_ret
          exact ⟨by rw [hfin.out]; rfl, bl_trans hb1 hb⟩
        · go_wp2_with (go_at_call 61; first | (have HH := E1; clear E1; refine (HH.out _ hb).mono ?_; rintro e w1 ⟨rfl, hb1⟩; obtain ⟨⟨q0, q1, q2, q3⟩, _⟩ := (hbx1.out.below hb1).cells; obtain ⟨⟨r0, r1, r2, r3⟩, _⟩ := (hbx2.out.below hb1).cells) | (refine (E2.out _ (bl_trans hb1 hb)).mono ?_; rintro e w2 ⟨rfl, hb2⟩))
          go_ret
          exact ⟨by rw [hfin.out]; simp, bl_trans hb2 (bl_trans hb1 hb)⟩
theorem one_any (a b : Node) (A1 A2 A3 B1 B2 B3 : Option Addr) (c1 c2 c3 d1 d2 d3 : Nat) (ok ok2 : Nat → Prop) (w : World) (ha : NodeAt w ok a A1 A2 A3 c1 c2 c3) (hb : NodeAt w ok2 b B1 B2 B3 d1 d2 d3) :
    Calls Tryz.prog 33 #[nodeV a A1 A2 A3 c1 c2 c3, nodeV b B1 B2 B3 d1 d2 d3] w fun e w' => e = .returned (.bool (eqN a b)) ∧ Below w.heap.size w w' := by
  rw [← eqR_eq]
  by_cases hl : b.decs.length = a.decs.length
  · exact one_same a b A1 A2 A3 B1 B2 B3 c1 c2 c3 d1 d2 d3 ok ok2 w ha hb hl
  · have := one_lens a b A1 A2 A3 B1 B2 B3 c1 c2 c3 d1 d2 d3 w (fun h => hl h.symm)
    rw [show eqR a b = false from by unfold eqR; rw [beq_eq_false_iff_ne.2 fun h => hl (by rw [h])]; rfl]
    exact this
end Go.Proofs.T
namespace Go.Proofs.T
open Go.RowKit
set_option maxHeartbeats 2000000 in
theorem rN_lens (A B : Option Addr) (n m c d : Nat) (w : World) (h : n ≠ m) : Calls Tryz.prog 14 #[.slice A n c, .slice B m d] w fun e w' => e = .returned (.bool false) ∧ w = w' := by
  have k1 : ((n : Int) != (m : Int)) = true := by simp; omega
  go_enter Tryz.func14, Tryz.ntmps14
  go_wp2
  go_ret
  exact ⟨rfl, rfl⟩
set_option maxHeartbeats 4000000 in
set_option maxRecDepth 100000 in
theorem rN_same (A B : Option Addr) (c d : Nat) (xs ys : List Node) (ok ok2 : Nat → Prop) (w : World) (h1 : Rd lNode w ok A xs.length xs) (h2 : Rd lNode w ok2 B ys.length ys) (hl : ys.length = xs.length) :
    Calls Tryz.prog 14 #[.slice A xs.length c, .slice B xs.length d] w fun e w' => e = .returned (.bool (xs == ys)) ∧ Below w.heap.size w w' := by
  have k1 : ((xs.length : Int) != (xs.length : Int)) = false := by simp
  have hm := h1.max
  have H1 := Lib.hid h1; have H2 := Lib.hid h2; have HL := Lib.hid hl
  clear h1 h2 hl
  go_enter Tryz.func14, Tryz.ntmps14
  go_wp2
  go_loopg [5] xs.length (fun gg i wr => ∃ k : Nat, k ≤ xs.length ∧ gg = xs.length - k ∧ i = .int .i64 k ∧ Hid (xs.take k = ys.take k) ∧ Below w.heap.size w wr)
  case atStart => exact ⟨0, by omega, by omega, rfl, rfl, Below.refl _ _⟩
  case round =>
    obtain ⟨k, hk, rfl, rfl, heq, hb⟩ := hrel
    by_cases hlt : k < xs.length
    · have hlt2 : k < ys.length := by rw [HL.out]; exact hlt
      obtain ⟨b1, o1, hA, _⟩ := H1.out.row (by omega)
      subst hA
      obtain ⟨b2, o2, hB, _⟩ := H2.out.row (by omega)
      subst hB
      obtain ⟨A1, c1, A2, c2, A3, c3, ⟨e0, e1, e2, e3⟩, hn1⟩ := (H1.out.below (by decide) hb).nodeAt k hlt
      obtain ⟨B1, d1, B2, d2, B3, d3, ⟨e4, e5, e6, e7⟩, hn2⟩ := (H2.out.below (by decide) hb).nodeAt k hlt2
      have hst : Hid (∀ h : xs[k] = ys[k], xs.take (k + 1) = ys.take (k + 1)) := fun h => take_eq_succ hlt hlt2 heq.out h
      have hno : Hid (xs[k] ≠ ys[k] → (xs == ys) = false) := fun h => beq_eq_false_iff_ne.2 fun h' => h (by subst h'; rfl)
      generalize xs[k] = x at e0 e1 e2 e3 hn1 hst hno
      generalize ys[k] = y at e4 e5 e6 e7 hn2 hst hno
      have hc := one_any x y A1 A2 A3 B1 B2 B3 c1 c2 c3 d1 d2 d3 ok ok2 wr.drew (hn1.move fun _ _ _ => rfl) (hn2.move fun _ _ _ => rfl)
      unfold nodeV nodeW at hc
      have hb' : Below w.heap.size w wr.drew := bl_drew hb
      have f0 : wr.drew.cell? ⟨b1, o1 + k * 4, none⟩ = _ := e0
      have f1 : wr.drew.cell? ⟨b1, o1 + k * 4 + 1, none⟩ = _ := e1
      have f2 : wr.drew.cell? ⟨b1, o1 + k * 4 + 2, none⟩ = _ := e2
      have f3 : wr.drew.cell? ⟨b1, o1 + k * 4 + 3, none⟩ = _ := e3
      have f4 : wr.drew.cell? ⟨b2, o2 + k * 4, none⟩ = _ := e4
      have f5 : wr.drew.cell? ⟨b2, o2 + k * 4 + 1, none⟩ = _ := e5
      have f6 : wr.drew.cell? ⟨b2, o2 + k * 4 + 2, none⟩ = _ := e6
      have f7 : wr.drew.cell? ⟨b2, o2 + k * 4 + 3, none⟩ = _ := e7
      have HSX : ∀ q : Bool, eqN x y = q → Hid (Calls Tryz.prog 33 #[.agg #[.int .i64 x.kind, .slice A1 x.shape.length c1, .slice A2 x.ints.length c2, .slice A3 x.decs.length c3], .agg #[.int .i64 y.kind, .slice B1 y.shape.length d1, .slice B2 y.ints.length d2, .slice B3 y.decs.length d3]] wr.drew fun e w' => e = .returned (.bool q) ∧ Below wr.drew.heap.size wr.drew w') := fun q hq => by rw [← hq]; exact hc
      clear hlt2 hn1 hn2 hc
      by_cases hxy : x = y
      · have HC := HSX true ((eqN_iff x y).2 hxy)
        have hst2 := Lib.hid (hst.out hxy)
        clear hst hno hxy HSX
        go_wp2
        first | go_region_with (first | (go_at_call 33; refine HC.out.mono ?_; rintro e w1 ⟨rfl, hb1⟩)) | fail
        all_goals
          go_wp2
          go_roundg (xs.length - (k + 1))
          case measure => omega
          case rel => exact ⟨k + 1, by omega, rfl, by go_num, hst2.out, bl_trans hb1 hb'⟩
      · have HC := HSX false (by
          cases h : eqN x y
          · rfl
          · exact absurd ((eqN_iff x y).1 h) hxy)
        have hno2 := Lib.hid (hno.out hxy)
        clear hst hno hxy HSX
        go_wp2
        first | go_region_with (first | (go_at_call 33; refine HC.out.mono ?_; rintro e w1 ⟨rfl, hb1⟩)) | fail
        all_goals
          go_wp2
          go_ret
          exact ⟨by rw [hno2.out]; rfl, bl_trans hb1 hb'⟩
    · have hkn : k = xs.length := by omega
      subst hkn
      have hfin : Hid ((xs == ys) = true) := by
        have := heq.out
        rw [List.take_length, ← HL.out, List.take_length] at this
        simpa [Hid] using this
      go_wp2
      go_ret
      exact ⟨by rw [hfin.out]; rfl, hb⟩
/-- deckleref10.Same -/
theorem rN_any (A B : Option Addr) (c d : Nat) (xs ys : List Node) (ok ok2 : Nat → Prop) (w : World) (h1 : Rd lNode w ok A xs.length xs) (h2 : Rd lNode w ok2 B ys.length ys) :
    Calls Tryz.prog 14 #[.slice A xs.length c, .slice B ys.length d] w fun e w' => e = .returned (.bool (xs == ys)) ∧ Below w.heap.size w w' := by
  by_cases hl : ys.length = xs.length
  · rw [hl]
    exact rN_same A B c d xs ys ok ok2 w h1 h2 hl
  · refine (rN_lens A B xs.length ys.length c d w (fun h => hl h.symm)).mono ?_
    rintro e w' ⟨rfl, rfl⟩
    exact ⟨by congr 2; exact (beq_eq_false_iff_ne.2 fun h => hl (by rw [h])).symm, Below.refl _ _⟩
/-- decklelaw10.Few -/
def fewL : Nat → List Node → Int → Bool × Int
  | 0, _, n => (true, n)
  | _ + 1, [], n => (true, n)
  | f + 1, x :: r, n => if 30 < x.shape.length ∨ 300 < x.ints.length ∨ 300 < x.decs.length then (false, n) else fewL f r (n + x.ints.length + x.decs.length)
def fewN (a : List Node) : Bool := (fewL 200 a 0).1 && (decide (a.length ≤ 100) && decide ((fewL 200 a 0).2 ≤ 1000))
end Go.Proofs.T
namespace Go.Proofs.T
open Go.RowKit
theorem fewL_nil (f : Nat) (n : Int) : fewL f [] n = (true, n) := by cases f <;> rfl
set_option maxHeartbeats 4000000 in
set_option maxRecDepth 100000 in
theorem few_any (A : Option Addr) (c : Nat) (xs : List Node) (ok : Nat → Prop) (w : World) (h : Rd lNode w ok A xs.length xs) :
    Calls Tryz.prog 7 #[.slice A xs.length c] w fun e w' => e = .returned (.bool (fewN xs)) ∧ Below w.heap.size w w' := by
  have hm := h.max
  have H1 := Lib.hid h
  clear h
  go_enter Tryz.func7, Tryz.ntmps7
  go_wp2
  go_loopg [3, 4] xs.length (fun gg v3 i wr => ∃ (k : Nat) (n : Int), k ≤ xs.length ∧ k ≤ 200 ∧ gg = xs.length - k ∧ i = .int .i64 k ∧ v3 = .int .i64 n ∧ 0 ≤ n ∧ n ≤ 600 * k ∧ Hid (fewL 200 xs 0 = fewL (200 - k) (xs.drop k) n) ∧ Below w.heap.size w wr)
  case atStart => exact ⟨0, 0, by omega, by omega, by omega, rfl, rfl, by omega, by omega, rfl, Below.refl _ _⟩
  case round =>
    obtain ⟨k, n, hk, hk2, rfl, rfl, rfl, hn0, hn1, HF, hb⟩ := hrel
    by_cases hgo : k < xs.length ∧ k < 200
    · obtain ⟨hlt, hlt2⟩ := hgo
      obtain ⟨b, o, hA, _⟩ := H1.out.row (by omega)
      subst hA
      obtain ⟨A1, c1, A2, c2, A3, c3, ⟨e0, e1, e2, e3⟩, _⟩ := (H1.out.below (by decide) hb).nodeAt k hlt
      have hd := List.drop_eq_getElem_cons hlt
      have hq := HF.out
      rw [hd, show 200 - k = (200 - (k + 1)) + 1 by omega, fewL] at hq
      generalize xs[k].shape.length = s1 at *
      generalize xs[k].ints.length = s2 at *
      generalize xs[k].decs.length = s3 at *
      have k1 : decide ((k : Int) < (xs.length : Int)) = true := by simpa using hlt
      have k2 : decide ((k : Int) < 200) = true := by simp; omega
      clear hd
      by_cases h1 : 30 < s1 ∨ 300 < s2 ∨ 300 < s3
      · rw [if_pos h1] at hq
        have hfin : Hid (fewN xs = false) := by show _ = _; unfold fewN; rw [hq]; rfl
        clear hq
        by_cases g1 : 30 < s1
        · have d1 : decide ((30 : Int) < (s1 : Int)) = true := by simp; omega
          clear h1
          go_wp2
          go_ret
          exact ⟨by rw [hfin.out]; rfl, hb⟩
        · have d1 : decide ((30 : Int) < (s1 : Int)) = false := by simp; omega
          by_cases g2 : 300 < s2
          · have d2 : decide ((300 : Int) < (s2 : Int)) = true := by simp; omega
            clear h1
            go_wp2
            go_ret
            exact ⟨by rw [hfin.out]; rfl, hb⟩
          · have d2 : decide ((300 : Int) < (s2 : Int)) = false := by simp; omega
            have d3 : decide ((300 : Int) < (s3 : Int)) = true := by simp; omega
            clear h1
            go_wp2
            go_ret
            exact ⟨by rw [hfin.out]; rfl, hb⟩
      · rw [if_neg h1] at hq
        have hst := Lib.hid hq
        have d1 : decide ((30 : Int) < (s1 : Int)) = false := by simp; omega
        have d2 : decide ((300 : Int) < (s2 : Int)) = false := by simp; omega
        have d3 : decide ((300 : Int) < (s3 : Int)) = false := by simp; omega
        have l2 : s2 ≤ 300 := by omega
        have l3 : s3 ≤ 300 := by omega
        clear hq h1
        have hb' : Below w.heap.size w wr.drew := bl_drew hb
        have f2 : wr.drew.cell? ⟨b, o + k * 4 + 2, none⟩ = _ := e2
        have f3 : wr.drew.cell? ⟨b, o + k * 4 + 3, none⟩ = _ := e3
        go_wp2
        have q1 : IntKind.i64.wrap (n + (s2 : Int)) = n + (s2 : Int) := IntWalk.i64_in _ (by omega)
        have q2 : IntKind.i64.wrap (n + (s2 : Int) + (s3 : Int)) = n + (s2 : Int) + (s3 : Int) := IntWalk.i64_in _ (by omega)
        go_region_held3 (fun w' => Below w.heap.size w w' ∧ w'.cell? ⟨b, o + k * 4 + 2, none⟩ = some (.slice A2 s2 c2) ∧ w'.cell? ⟨b, o + k * 4 + 3, none⟩ = some (.slice A3 s3 c3))
          (refine ⟨?_, ?_, ?_⟩ <;> with_reducible assumption)
          (fail)
        clear q1 q2
        go_wp2
        go_roundg (xs.length - (k + 1))
        case measure => omega
        case rel => exact ⟨k + 1, n + s2 + s3, by omega, by omega, rfl, by go_num, rfl, by omega, by omega, hst.out, hb'⟩
    · have hend : Hid (fewN xs = (decide (xs.length ≤ 100) && decide (n ≤ 1000))) := by
        show _ = _
        have h2 := HF.out
        have h3 : fewL (200 - k) (xs.drop k) n = (true, n) := by
          by_cases h4 : k < xs.length
          · rw [show 200 - k = 0 by omega]; rfl
          · rw [List.drop_eq_nil_of_le (by omega)]; exact fewL_nil _ _
        unfold fewN
        rw [h2, h3]; rfl
      have he1 : ∀ q : Bool, decide (xs.length ≤ 100) = q → decide ((xs.length : Int) ≤ 100) = q := fun q hq => by rw [← hq]; simp; omega
      by_cases hlt : k < xs.length
      · have k1 : decide ((k : Int) < (xs.length : Int)) = true := by simpa using hlt
        have hk200 : 200 ≤ k := by omega
        have k2 : decide ((k : Int) < 200) = false := by simp; omega
        clear hgo he1
        have k3 : decide ((xs.length : Int) ≤ 100) = false := by simp; omega
        go_wp2
        go_ret
        exact ⟨by rw [hend.out, show decide (xs.length ≤ 100) = false by simp; omega]; rfl, hb⟩
      · have k1 : decide ((k : Int) < (xs.length : Int)) = false := by simpa using hlt
        clear hgo he1
        by_cases h100 : xs.length ≤ 100
        · have k3 : decide ((xs.length : Int) ≤ 100) = true := by simp; omega
          go_wp2
          go_ret
          exact ⟨by rw [hend.out, show decide (xs.length ≤ 100) = true by simp; omega]; rfl, hb⟩
        · have k3 : decide ((xs.length : Int) ≤ 100) = false := by simp; omega
          go_wp2
          go_ret
          exact ⟨by rw [hend.out, show decide (xs.length ≤ 100) = false by simp; omega]; rfl, hb⟩
end Go.Proofs.T
namespace Go.Proofs.T
def tx1 : List UInt8 := [50, 226, 141, 180, 40, 50, 226, 141, 180, 39, 97, 98, 39, 41, 40, 51, 41]
theorem px1 : parseN tx1 = ([⟨5, [2], [], []⟩, ⟨3, [2], [97, 98], []⟩, ⟨2, [], [3], []⟩], true) := by kernel_rfl
def tx2 : List UInt8 := [48, 32, 50, 226, 141, 180, 39, 39]
theorem px2 : parseN tx2 = ([⟨3, [0, 2], [], []⟩], true) := by kernel_rfl
def tx3 : List UInt8 := [50, 226, 141, 180, 40, 49, 41, 40, 51, 41]
theorem px3 : parseN tx3 = ([], false) := by kernel_rfl
def tx4 : List UInt8 := [49, 226, 141, 180, 51, 32, 52]
theorem px4 : parseN tx4 = ([], false) := by kernel_rfl
def tx5 : List UInt8 := [51, 32, 52]
theorem px5 : parseN tx5 = ([], false) := by kernel_rfl
def tx6 : List UInt8 := [226, 138, 130, 40, 50, 226, 141, 180, 39, 97, 98, 39, 41]
theorem px6 : parseN tx6 = ([⟨5, [], [], []⟩, ⟨3, [2], [97, 98], []⟩], true) := by kernel_rfl
def tx7 : List UInt8 := [194, 175, 49, 53, 69, 194, 175, 49]
theorem px7 : parseN tx7 = ([⟨4, [], [], [⟨-15, -1⟩]⟩], true) := by kernel_rfl
def tx8 : List UInt8 := []
theorem px8 : parseN tx8 = ([], false) := by kernel_rfl
def tx9 : List UInt8 := [226, 138, 130, 40, 51, 41]
theorem px9 : parseN tx9 = ([], false) := by kernel_rfl
theorem nx1 : notT [⟨5, [2], [], []⟩, ⟨3, [2], [97, 98], []⟩, ⟨2, [], [3], []⟩] = tx1 := by kernel_rfl
theorem nx2 : notT [⟨2, [0], [], []⟩] = [48, 226, 141, 180, 48] := by kernel_rfl
theorem nx3 : notT [⟨2, [], [1], []⟩] = [] := by kernel_rfl
theorem nx4 : notT [⟨3, [], [97], []⟩] = [39, 97, 39] := by kernel_rfl
end Go.Proofs.T
namespace Go.Proofs.T
open Go.RowKit
def tr : Nat → Prop := fun _ => True
/-- A row in a block that is known whole. -/
theorem Rd.of_box {α : Type} {L : Ly α} {W : World} {ok : Nat → Prop} {b n : Nat} {xs : List α} {cs : List Value} {t : TypeId} (h : Box W b cs.toArray t) (hp : Parts L W ok xs cs) (hb : ok b) (hn : xs.length = n) (hm : n ≤ 9223372036854775807) : Rd L W ok (some ⟨b, 0, none⟩) n xs := by
  subst hn
  refine ⟨rfl, hm, fun _ => ⟨b, 0, rfl, hb, fun i x hx => ?_⟩⟩
  obtain ⟨c, k1, k2⟩ := hp.get i x hx
  refine ⟨c, k1, fun j u hu => ?_⟩
  have := k2 j u hu
  rw [Nat.zero_add, Box.cell h]
  simpa using this
theorem Parts.two {α : Type} {L : Ly α} {W : World} {ok : Nat → Prop} {x : α} {xs : List α} {c d : List Value} (h : L.K W ok x c) (k : Parts L W ok xs d) : Parts L W ok (x :: xs) (c ++ d) := ⟨c, d, rfl, h, k⟩
theorem parts_i64' (W : World) (ok : Nat → Prop) : ∀ (xs : List Int), Parts Ly.i64 W ok xs (xs.map (Value.int .i64))
  | [] => rfl
  | x :: xs => ⟨[.int .i64 x], _, rfl, rfl, parts_i64' W ok xs⟩
theorem lit_ints (W : World) (xs : List Int) (n : Nat) (hn : xs.length = n) (hm : n ≤ 1000) (cs : Array Value) (hc : cs = (xs.map (Value.int .i64)).toArray) : Rd Ly.i64 (W.alloc (.cells cs 3)) tr (some ⟨W.heap.size, 0, none⟩) n xs := by
  subst hc
  exact Rd.of_box (cs := xs.map (Value.int .i64)) (Box.new W _ 3) (parts_i64' _ _ xs) trivial hn (by omega)
theorem lit_decs (W : World) (xs : List Dec) (n : Nat) (hn : xs.length = n) (hm : n ≤ 1000) (cs : Array Value) (hc : cs = (decCells xs).toArray) : Rd lDec (W.alloc (.cells cs 39)) tr (some ⟨W.heap.size, 0, none⟩) n xs := by
  subst hc
  exact Rd.of_box (cs := decCells xs) (Box.new W _ 39) (parts_dec _ _ xs) trivial hn (by omega)
theorem lit_node {W : World} {n : Node} {A1 A2 A3 : Option Addr} {c1 c2 c3 : Nat} (h : NodeAt W tr n A1 A2 A3 c1 c2 c3) : Rd lNode (W.alloc (.cells #[.int .i64 n.kind, .slice A1 n.shape.length c1, .slice A2 n.ints.length c2, .slice A3 n.decs.length c3] 28)) tr (some ⟨W.heap.size, 0, none⟩) 1 [n] :=
  Rd.of_box (cs := [.int .i64 n.kind, .slice A1 n.shape.length c1, .slice A2 n.ints.length c2, .slice A3 n.decs.length c3]) (Box.new W _ 28) (Parts.single (nodeK (((h.mono (ok' := fun b => b < W.heap.size) fun b _ hlt => hlt).move fun b _ hlt => (bl_alloc (Below.refl _ _) _).block b hlt).mono fun _ _ _ => trivial))) trivial rfl (by omega)
def I64b (x : Int) : Bool := decide (-9223372036854775808 ≤ x) && decide (x ≤ 9223372036854775807)
theorem I64b_ok {x : Int} (h : I64b x = true) : I64 x := by unfold I64b at h; simp at h; exact h
def nodeB (n : Node) : Bool := I64b n.kind && n.shape.all I64b && n.ints.all I64b && n.decs.all (fun d => I64b d.man && I64b d.exp) && decide (n.shape.length ≤ 1000) && decide (n.ints.length ≤ 1000) && decide (n.decs.length ≤ 1000)
theorem nodeB_ok {a : List Node} (h : a.all nodeB = true) : NodesOk a ∧ InOk a := by
  rw [List.all_eq_true] at h
  constructor
  · intro n hn
    have := h n hn
    unfold nodeB at this
    simp only [Bool.and_eq_true, List.all_eq_true] at this
    obtain ⟨⟨⟨⟨⟨⟨h1, h2⟩, h3⟩, h4⟩, _⟩, _⟩, _⟩ := this
    exact ⟨I64b_ok h1, fun x hx => I64b_ok (h2 x hx), fun x hx => I64b_ok (h3 x hx), fun d hd => ⟨I64b_ok (h4 d hd).1, I64b_ok (h4 d hd).2⟩⟩
  · intro n hn
    have := h n hn
    unfold nodeB at this
    simp only [Bool.and_eq_true, decide_eq_true_eq] at this
    omega
theorem text_lit (a : List Node) (t : List UInt8) (h : notT a = t) (hb : a.all nodeB = true) (hl : (textN a.length a).length ≤ 1000000) (n : Nat) (hn : a.length = n) (hn2 : n ≤ 1000) (W : World) (hG : Glob W) (A : Option Addr) (c : Nat) (hc : n ≤ c) (hR : Rd lNode W tr A n a) :
    Calls Tryz.prog 11 #[.slice A n c] W fun e w' => e = .returned (strV t) ∧ Below W.heap.size W w' := by
  subst hn; subst h
  exact text_any A c a tr W hR hc (nodeB_ok hb).1 (nodeB_ok hb).2 (by omega) hG (fun _ => by omega)
theorem parse_lit (t : List UInt8) (r : List Node) (q : Bool) (h : parseN t = (r, q)) (hl : t.length ≤ 1000) (n : Nat) (hn : r.length = n) (W : World) (hG : Glob W) :
    Calls Tryz.prog 13 #[strV t] W fun e w' => ∃ A c, e = .returned (.tuple #[.slice A n c, .bool q]) ∧ Rd lNode w' tr A n r ∧ Below W.heap.size W w' := by
  subst hn
  refine (parse_any t W hG (by omega)).mono ?_
  rintro e w' ⟨v, rfl, hs, hb⟩
  rw [h] at hs ⊢
  obtain ⟨A, c, rfl, hc, hr⟩ := hs
  exact ⟨A, c, rfl, hr.mono (by decide) fun _ _ _ => trivial, hb⟩
theorem same_lit (xs : List Node) (n : Nat) (hn : xs.length = n) (A B : Option Addr) (c d : Nat) (W : World) (h1 : Rd lNode W tr A n xs) (h2 : Rd lNode W tr B n xs) :
    Calls Tryz.prog 14 #[.slice A n c, .slice B n d] W fun e w' => e = .returned (.bool true) ∧ Below W.heap.size W w' := by
  subst hn
  have := rN_any A B c d xs xs tr tr W h1 h2
  rwa [show (xs == xs) = true by simp] at this
/-- The world behind small's first literals. -/
def smW (w : World) : World :=
  (((((((w.alloc (.cells #[.int .i64 2] 3)).alloc (.cells #[.int .i64 97, .int .i64 98] 3)).alloc (.cells #[.int .i64 3, .slice (some ⟨w.heap.size, 0, none⟩) 1 1, .slice (some ⟨w.heap.size + 1, 0, none⟩) 2 2, .slice none 0 0] 28)).alloc (.cells #[.int .i64 3] 3)).alloc (.cells #[.int .i64 2, .slice none 0 0, .slice (some ⟨w.heap.size + 3, 0, none⟩) 1 1, .slice none 0 0] 28)).alloc (.cells #[.int .i64 2] 3)).alloc (.cells #[.int .i64 5, .slice (some ⟨w.heap.size + 5, 0, none⟩) 1 1, .slice none 0 0, .slice none 0 0, .int .i64 3, .slice (some ⟨w.heap.size, 0, none⟩) 1 1, .slice (some ⟨w.heap.size + 1, 0, none⟩) 2 2, .slice none 0 0, .int .i64 2, .slice none 0 0, .slice (some ⟨w.heap.size + 3, 0, none⟩) 1 1, .slice none 0 0] 28))
def rowS : List Node := [⟨5, [2], [], []⟩, ⟨3, [2], [97, 98], []⟩, ⟨2, [], [3], []⟩]
theorem smW_below (w : World) : Below w.heap.size w (smW w) := by
  unfold smW
  exact bl_alloc (bl_alloc (bl_alloc (bl_alloc (bl_alloc (bl_alloc (bl_alloc (Below.refl _ _) _) _) _) _) _) _) _
end Go.Proofs.T
namespace Go.Proofs.T
open Go.RowKit
theorem alloc_heap (w : World) (o : Obj) : (w.alloc o).heap = w.heap.push o := rfl
theorem smW_facts (w : World) : Rd lNode (smW w) tr (some ⟨w.heap.size + 6, 0, none⟩) 3 rowS ∧ Box (smW w) (w.heap.size + 2) #[.int .i64 3, .slice (some ⟨w.heap.size, 0, none⟩) 1 1, .slice (some ⟨w.heap.size + 1, 0, none⟩) 2 2, .slice none 0 0] 28 ∧ Rd Ly.i64 (smW w) tr (some ⟨w.heap.size, 0, none⟩) 1 [2] ∧ Rd Ly.i64 (smW w) tr (some ⟨w.heap.size + 1, 0, none⟩) 2 [97, 98] := by
  have b0 : Box (smW w) w.heap.size #[.int .i64 2] 3 := by
    unfold Box smW
    simp only [alloc_heap, Array.getElem?_push, Array.size_push]
    repeat (first | rw [if_neg (by omega)] | rw [if_pos trivial] | rw [if_pos (by omega)])
  have b1 : Box (smW w) (w.heap.size + 1) #[.int .i64 97, .int .i64 98] 3 := by
    unfold Box smW
    simp only [alloc_heap, Array.getElem?_push, Array.size_push]
    repeat (first | rw [if_neg (by omega)] | rw [if_pos trivial] | rw [if_pos (by omega)])
  have b2 : Box (smW w) (w.heap.size + 2) #[.int .i64 3, .slice (some ⟨w.heap.size, 0, none⟩) 1 1, .slice (some ⟨w.heap.size + 1, 0, none⟩) 2 2, .slice none 0 0] 28 := by
    unfold Box smW
    simp only [alloc_heap, Array.getElem?_push, Array.size_push]
    repeat (first | rw [if_neg (by omega)] | rw [if_pos trivial] | rw [if_pos (by omega)])
  have b3 : Box (smW w) (w.heap.size + 3) #[.int .i64 3] 3 := by
    unfold Box smW
    simp only [alloc_heap, Array.getElem?_push, Array.size_push]
    repeat (first | rw [if_neg (by omega)] | rw [if_pos trivial] | rw [if_pos (by omega)])
  have b5 : Box (smW w) (w.heap.size + 5) #[.int .i64 2] 3 := by
    unfold Box smW
    simp only [alloc_heap, Array.getElem?_push, Array.size_push]
    repeat (first | rw [if_neg (by omega)] | rw [if_pos trivial] | rw [if_pos (by omega)])
  have b6 : Box (smW w) (w.heap.size + 6) #[.int .i64 5, .slice (some ⟨w.heap.size + 5, 0, none⟩) 1 1, .slice none 0 0, .slice none 0 0, .int .i64 3, .slice (some ⟨w.heap.size, 0, none⟩) 1 1, .slice (some ⟨w.heap.size + 1, 0, none⟩) 2 2, .slice none 0 0, .int .i64 2, .slice none 0 0, .slice (some ⟨w.heap.size + 3, 0, none⟩) 1 1, .slice none 0 0] 28 := by
    unfold Box smW
    simp only [alloc_heap, Array.getElem?_push, Array.size_push]
    repeat (first | rw [if_neg (by omega)] | rw [if_pos trivial] | rw [if_pos (by omega)])
  have r0 : Rd Ly.i64 (smW w) tr (some ⟨w.heap.size, 0, none⟩) 1 [2] := Rd.of_box (cs := [.int .i64 2]) b0 (parts_i64' _ _ [2]) trivial rfl (by omega)
  have r1 : Rd Ly.i64 (smW w) tr (some ⟨w.heap.size + 1, 0, none⟩) 2 [97, 98] := Rd.of_box (cs := [.int .i64 97, .int .i64 98]) b1 (parts_i64' _ _ [97, 98]) trivial rfl (by omega)
  have r3 : Rd Ly.i64 (smW w) tr (some ⟨w.heap.size + 3, 0, none⟩) 1 [3] := Rd.of_box (cs := [.int .i64 3]) b3 (parts_i64' _ _ [3]) trivial rfl (by omega)
  have r5 : Rd Ly.i64 (smW w) tr (some ⟨w.heap.size + 5, 0, none⟩) 1 [2] := Rd.of_box (cs := [.int .i64 2]) b5 (parts_i64' _ _ [2]) trivial rfl (by omega)
  have n0 : NodeAt (smW w) tr ⟨5, [2], [], []⟩ (some ⟨w.heap.size + 5, 0, none⟩) none none 1 0 0 := ⟨Nat.le_refl _, r5, Nat.le_refl _, Rd.nil _ _ _ _, Nat.le_refl _, Rd.nil _ _ _ _⟩
  have n1 : NodeAt (smW w) tr ⟨3, [2], [97, 98], []⟩ (some ⟨w.heap.size, 0, none⟩) (some ⟨w.heap.size + 1, 0, none⟩) none 1 2 0 := ⟨Nat.le_refl _, r0, Nat.le_refl _, r1, Nat.le_refl _, Rd.nil _ _ _ _⟩
  have n2 : NodeAt (smW w) tr ⟨2, [], [3], []⟩ none (some ⟨w.heap.size + 3, 0, none⟩) none 0 1 0 := ⟨Nat.le_refl _, Rd.nil _ _ _ _, Nat.le_refl _, r3, Nat.le_refl _, Rd.nil _ _ _ _⟩
  exact ⟨Rd.of_box b6 (Parts.two (nodeK n0) (Parts.two (nodeK n1) (Parts.single (nodeK n2)))) trivial rfl (by omega), b2, r0, r1⟩
theorem tlen1 : (textN 3 rowS).length ≤ 1000000 := Nat.le_of_ble_eq_true (by kernel_rfl)
theorem tlen2 : (textN 1 [⟨2, [0], [], []⟩]).length ≤ 1000000 := Nat.le_of_ble_eq_true (by kernel_rfl)
theorem tlen3 : (textN 1 [⟨2, [], [1], []⟩]).length ≤ 1000000 := Nat.le_of_ble_eq_true (by kernel_rfl)
theorem tlen4 : (textN 1 [⟨3, [], [97], []⟩]).length ≤ 1000000 := Nat.le_of_ble_eq_true (by kernel_rfl)
set_option maxHeartbeats 4000000 in
set_option maxRecDepth 100000 in
theorem small_any (w : World) (hG : Glob w) : Calls Tryz.prog 6 #[] w fun e w' => e = .returned (.bool true) ∧ Below w.heap.size w w' := by
  go_enter Tryz.func6, Tryz.ntmps6
  go_wp2_with fail
  show Calls Tryz.prog 13 _ (smW w) _
  obtain ⟨hrow, hb2, hr0, hr1⟩ := smW_facts w
  have hbb := smW_below w
  have hz0 : w.heap.size + 7 ≤ (smW w).heap.size := by simp [smW]
  have HG := Lib.hid hG
  have HROW := Lib.hid hrow; have HB2 := Lib.hid hb2; have HR0 := Lib.hid hr0; have HR1 := Lib.hid hr1
  clear hG hrow hb2 hr0 hr1
  generalize smW w = W at *
  have P1 := Lib.hid (fun W h => parse_lit tx1 _ _ px1 (by decide) 3 rfl W h)
  have P2 := Lib.hid (fun W h => parse_lit tx2 _ _ px2 (by decide) 1 rfl W h)
  have P3 := Lib.hid (fun W h => parse_lit tx3 _ _ px3 (by decide) 0 rfl W h)
  have P4 := Lib.hid (fun W h => parse_lit tx4 _ _ px4 (by decide) 0 rfl W h)
  have P5 := Lib.hid (fun W h => parse_lit tx5 _ _ px5 (by decide) 0 rfl W h)
  have P6 := Lib.hid (fun W h => parse_lit tx6 _ _ px6 (by decide) 2 rfl W h)
  have P7 := Lib.hid (fun W h => parse_lit tx7 _ _ px7 (by decide) 1 rfl W h)
  have P8 := Lib.hid (fun W h => parse_lit tx8 _ _ px8 (by decide) 0 rfl W h)
  have P9 := Lib.hid (fun W h => parse_lit tx9 _ _ px9 (by decide) 0 rfl W h)
  refine (P1.out _ (HG.out.below hbb)).mono ?_
  rintro e w1 ⟨A1, c1, rfl, rd1, g1⟩
  have h1 := bl_trans g1 hbb
  have k1 := g1
  have RD1 := Lib.hid rd1
  clear P1 rd1
  go_wp2_with fail
  refine (P2.out _ (HG.out.below h1)).mono ?_
  rintro e w2 ⟨A2, c2, rfl, rd2, g2⟩
  have h2 := bl_trans g2 h1
  have k2 := bl_trans g2 k1
  have RD2 := Lib.hid rd2
  clear P2 rd2
  replace RD1 := Lib.hid (RD1.out.below (by decide) g2)
  go_wp2_with fail
  refine (P3.out _ (HG.out.below h2)).mono ?_
  rintro e w3 ⟨A3, c3, rfl, rd3, g3⟩
  have h3 := bl_trans g3 h2
  have k3 := bl_trans g3 k2
  have RD3 := Lib.hid rd3
  clear P3 rd3
  replace RD1 := Lib.hid (RD1.out.below (by decide) g3)
  replace RD2 := Lib.hid (RD2.out.below (by decide) g3)
  go_wp2_with fail
  refine (P4.out _ (HG.out.below h3)).mono ?_
  rintro e w4 ⟨A4, c4, rfl, rd4, g4⟩
  have h4 := bl_trans g4 h3
  have k4 := bl_trans g4 k3
  have RD4 := Lib.hid rd4
  clear P4 rd4
  replace RD1 := Lib.hid (RD1.out.below (by decide) g4)
  replace RD2 := Lib.hid (RD2.out.below (by decide) g4)
  go_wp2_with fail
  refine (P5.out _ (HG.out.below h4)).mono ?_
  rintro e w5 ⟨A5, c5, rfl, rd5, g5⟩
  have h5 := bl_trans g5 h4
  have k5 := bl_trans g5 k4
  have RD5 := Lib.hid rd5
  clear P5 rd5
  replace RD1 := Lib.hid (RD1.out.below (by decide) g5)
  replace RD2 := Lib.hid (RD2.out.below (by decide) g5)
  go_wp2_with fail
  refine (P6.out _ (HG.out.below h5)).mono ?_
  rintro e w6 ⟨A6, c6, rfl, rd6, g6⟩
  have h6 := bl_trans g6 h5
  have k6 := bl_trans g6 k5
  have RD6 := Lib.hid rd6
  clear P6 rd6
  replace RD1 := Lib.hid (RD1.out.below (by decide) g6)
  replace RD2 := Lib.hid (RD2.out.below (by decide) g6)
  go_wp2_with fail
  refine (P7.out _ (HG.out.below h6)).mono ?_
  rintro e w7 ⟨A7, c7, rfl, rd7, g7⟩
  have h7 := bl_trans g7 h6
  have k7 := bl_trans g7 k6
  have RD7 := Lib.hid rd7
  clear P7 rd7
  replace RD1 := Lib.hid (RD1.out.below (by decide) g7)
  replace RD2 := Lib.hid (RD2.out.below (by decide) g7)
  replace RD6 := Lib.hid (RD6.out.below (by decide) g7)
  go_wp2_with fail
  refine (P8.out _ (HG.out.below h7)).mono ?_
  rintro e w8 ⟨A8, c8, rfl, rd8, g8⟩
  have h8 := bl_trans g8 h7
  have k8 := bl_trans g8 k7
  have RD8 := Lib.hid rd8
  clear P8 rd8
  replace RD1 := Lib.hid (RD1.out.below (by decide) g8)
  replace RD2 := Lib.hid (RD2.out.below (by decide) g8)
  replace RD6 := Lib.hid (RD6.out.below (by decide) g8)
  replace RD7 := Lib.hid (RD7.out.below (by decide) g8)
  go_wp2_with fail
  refine (P9.out _ (HG.out.below h8)).mono ?_
  rintro e w9 ⟨A9, c9, rfl, rd9, g9⟩
  have h9 := bl_trans g9 h8
  have k9 := bl_trans g9 k8
  have RD9 := Lib.hid rd9
  clear P9 rd9
  replace RD1 := Lib.hid (RD1.out.below (by decide) g9)
  replace RD2 := Lib.hid (RD2.out.below (by decide) g9)
  replace RD6 := Lib.hid (RD6.out.below (by decide) g9)
  replace RD7 := Lib.hid (RD7.out.below (by decide) g9)
  go_wp2_with fail
  refine (text_lit rowS tx1 nx1 (by decide) tlen1 3 rfl (by omega) _ (HG.out.below h9) _ 3 (Nat.le_refl _) (HROW.out.below (by decide) k9)).mono ?_
  rintro e w10 ⟨rfl, g10⟩
  have h10 := bl_trans g10 h9
  have k10 := bl_trans g10 k9
  replace RD1 := Lib.hid (RD1.out.below (by decide) g10)
  replace RD2 := Lib.hid (RD2.out.below (by decide) g10)
  replace RD6 := Lib.hid (RD6.out.below (by decide) g10)
  replace RD7 := Lib.hid (RD7.out.below (by decide) g10)
  unfold strV tx1
  go_wp2_with fail
  refine (same_lit rowS 3 rfl A1 (some ⟨w.heap.size + 6, 0, none⟩) c1 3 _ RD1.out (HROW.out.below (by decide) k10)).mono ?_
  rintro e w11 ⟨rfl, g11⟩
  have h11 := bl_trans g11 h10
  have k11 := bl_trans g11 k10
  replace RD1 := Lib.hid (RD1.out.below (by decide) g11)
  replace RD2 := Lib.hid (RD2.out.below (by decide) g11)
  replace RD6 := Lib.hid (RD6.out.below (by decide) g11)
  replace RD7 := Lib.hid (RD7.out.below (by decide) g11)
  go_wp2_with fail
  have hl1 := lit_node (W := w11.alloc (.cells #[.int .i64 0, .int .i64 2] 3)) (n := ⟨3, [0, 2], [], []⟩) (A1 := some ⟨w11.heap.size, 0, none⟩) (A2 := none) (A3 := none) (c1 := 2) (c2 := 0) (c3 := 0) ⟨Nat.le_refl _, lit_ints w11 [0, 2] 2 rfl (by omega) _ rfl, Nat.le_refl _, Rd.nil _ _ _ _, Nat.le_refl _, Rd.nil _ _ _ _⟩
  rw [size_al] at hl1
  have hbl : Below w11.heap.size w11 _ := bl_alloc (bl_alloc (Below.refl _ _) (.cells #[.int .i64 0, .int .i64 2] 3)) (.cells #[.int .i64 3, .slice (some ⟨w11.heap.size, 0, none⟩) 2 2, .slice none 0 0, .slice none 0 0] 28)
  refine (same_lit [⟨3, [0, 2], [], []⟩] 1 rfl A2 (some ⟨w11.heap.size + 1, 0, none⟩) c2 1 _ (RD2.out.below (by decide) hbl) hl1).mono ?_
  rintro e w12 ⟨rfl, g12⟩
  replace g12 := bl_trans g12 hbl
  have h12 := bl_trans g12 h11
  have k12 := bl_trans g12 k11
  clear hl1 hbl
  replace RD6 := Lib.hid (RD6.out.below (by decide) g12)
  replace RD7 := Lib.hid (RD7.out.below (by decide) g12)
  obtain ⟨⟨t0, t1, t2, t3⟩, _⟩ := (HB2.out.below k12).cells
  go_wp2_with fail
  have hn1 : NodeAt w12 tr ⟨3, [2], [97, 98], []⟩ (some ⟨w.heap.size, 0, none⟩) (some ⟨w.heap.size + 1, 0, none⟩) none 1 2 0 := ⟨Nat.le_refl _, HR0.out.below (by decide) k12, Nat.le_refl _, HR1.out.below (by decide) k12, Nat.le_refl _, Rd.nil _ _ _ _⟩
  have hbl2 : Below w12.heap.size w12 _ := bl_alloc (Below.refl _ _) (.cells #[.int .i64 5, .slice none 0 0, .slice none 0 0, .slice none 0 0, .int .i64 3, .slice (some ⟨w.heap.size, 0, none⟩) 1 1, .slice (some ⟨w.heap.size + 1, 0, none⟩) 2 2, .slice none 0 0] 28)
  have hn0 : NodeAt (w12.alloc (.cells #[.int .i64 5, .slice none 0 0, .slice none 0 0, .slice none 0 0, .int .i64 3, .slice (some ⟨w.heap.size, 0, none⟩) 1 1, .slice (some ⟨w.heap.size + 1, 0, none⟩) 2 2, .slice none 0 0] 28)) tr ⟨5, [], [], []⟩ none none none 0 0 0 := ⟨Nat.le_refl _, Rd.nil _ _ _ _, Nat.le_refl _, Rd.nil _ _ _ _, Nat.le_refl _, Rd.nil _ _ _ _⟩
  have hl2 := Rd.of_box (n := 2) (cs := [.int .i64 5, .slice none 0 0, .slice none 0 0, .slice none 0 0, .int .i64 3, .slice (some ⟨w.heap.size, 0, none⟩) 1 1, .slice (some ⟨w.heap.size + 1, 0, none⟩) 2 2, .slice none 0 0]) (Box.new w12 #[.int .i64 5, .slice none 0 0, .slice none 0 0, .slice none 0 0, .int .i64 3, .slice (some ⟨w.heap.size, 0, none⟩) 1 1, .slice (some ⟨w.heap.size + 1, 0, none⟩) 2 2, .slice none 0 0] 28) (Parts.two (nodeK hn0) (Parts.single (nodeK (hn1.move fun b _ hlt => hbl2.block b hlt)))) (ok := tr) trivial rfl (by omega)
  refine (same_lit [⟨5, [], [], []⟩, ⟨3, [2], [97, 98], []⟩] 2 rfl A6 (some ⟨w12.heap.size, 0, none⟩) c6 2 _ (RD6.out.below (by decide) hbl2) hl2).mono ?_
  rintro e w13 ⟨rfl, g13⟩
  replace g13 := bl_trans g13 hbl2
  have h13 := bl_trans g13 h12
  clear hl2 hbl2 hn1 hn0 t0 t1 t2 t3
  replace RD7 := Lib.hid (RD7.out.below (by decide) g13)
  go_wp2_with fail
  have hl3 := lit_node (W := w13.alloc (.cells #[.int .i64 (-15), .int .i64 (-1)] 39)) (n := ⟨4, [], [], [⟨-15, -1⟩]⟩) (A1 := none) (A2 := none) (A3 := some ⟨w13.heap.size, 0, none⟩) (c1 := 0) (c2 := 0) (c3 := 1) ⟨Nat.le_refl _, Rd.nil _ _ _ _, Nat.le_refl _, Rd.nil _ _ _ _, Nat.le_refl _, lit_decs w13 [⟨-15, -1⟩] 1 rfl (by omega) _ rfl⟩
  rw [size_al] at hl3
  have hbl3 : Below w13.heap.size w13 _ := bl_alloc (bl_alloc (Below.refl _ _) (.cells #[.int .i64 (-15), .int .i64 (-1)] 39)) (.cells #[.int .i64 4, .slice none 0 0, .slice none 0 0, .slice (some ⟨w13.heap.size, 0, none⟩) 1 1] 28)
  refine (same_lit [⟨4, [], [], [⟨-15, -1⟩]⟩] 1 rfl A7 (some ⟨w13.heap.size + 1, 0, none⟩) c7 1 _ (RD7.out.below (by decide) hbl3) hl3).mono ?_
  rintro e w14 ⟨rfl, g14⟩
  replace g14 := bl_trans g14 hbl3
  have h14 := bl_trans g14 h13
  clear hl3 hbl3
  go_wp2_with fail
  have hl15 := lit_node (W := w14.alloc (.cells #[.int .i64 0] 3)) (n := ⟨2, [0], [], []⟩) (A1 := some ⟨w14.heap.size, 0, none⟩) (A2 := none) (A3 := none) (c1 := 1) (c2 := 0) (c3 := 0) ⟨Nat.le_refl _, lit_ints w14 [0] 1 rfl (by omega) _ rfl, Nat.le_refl _, Rd.nil _ _ _ _, Nat.le_refl _, Rd.nil _ _ _ _⟩
  rw [size_al] at hl15
  have hbl15 : Below w14.heap.size w14 _ := bl_alloc (bl_alloc (Below.refl _ _) (.cells #[.int .i64 0] 3)) (.cells #[.int .i64 2, .slice (some ⟨w14.heap.size, 0, none⟩) 1 1, .slice none 0 0, .slice none 0 0] 28)
  refine (text_lit [⟨2, [0], [], []⟩] _ nx2 (by decide) tlen2 1 rfl (by omega) _ ((HG.out.below h14).below hbl15) (some ⟨w14.heap.size + 1, 0, none⟩) 1 (Nat.le_refl _) hl15).mono ?_
  rintro e w15 ⟨rfl, g15⟩
  replace g15 := bl_trans g15 hbl15
  have h15 := bl_trans g15 h14
  clear hl15 hbl15
  unfold strV
  go_wp2_with fail
  have hl16 := lit_node (W := w15.alloc (.cells #[.int .i64 1] 3)) (n := ⟨2, [], [1], []⟩) (A1 := none) (A2 := some ⟨w15.heap.size, 0, none⟩) (A3 := none) (c1 := 0) (c2 := 1) (c3 := 0) ⟨Nat.le_refl _, Rd.nil _ _ _ _, Nat.le_refl _, lit_ints w15 [1] 1 rfl (by omega) _ rfl, Nat.le_refl _, Rd.nil _ _ _ _⟩
  rw [size_al] at hl16
  have hbl16 : Below w15.heap.size w15 _ := bl_alloc (bl_alloc (Below.refl _ _) (.cells #[.int .i64 1] 3)) (.cells #[.int .i64 2, .slice none 0 0, .slice (some ⟨w15.heap.size, 0, none⟩) 1 1, .slice none 0 0] 28)
  refine (text_lit [⟨2, [], [1], []⟩] _ nx3 (by decide) tlen3 1 rfl (by omega) _ ((HG.out.below h15).below hbl16) (some ⟨w15.heap.size + 1, 0, none⟩) 1 (Nat.le_refl _) hl16).mono ?_
  rintro e w16 ⟨rfl, g16⟩
  replace g16 := bl_trans g16 hbl16
  have h16 := bl_trans g16 h15
  clear hl16 hbl16
  unfold strV
  go_wp2_with fail
  have hl17 := lit_node (W := w16.alloc (.cells #[.int .i64 97] 3)) (n := ⟨3, [], [97], []⟩) (A1 := none) (A2 := some ⟨w16.heap.size, 0, none⟩) (A3 := none) (c1 := 0) (c2 := 1) (c3 := 0) ⟨Nat.le_refl _, Rd.nil _ _ _ _, Nat.le_refl _, lit_ints w16 [97] 1 rfl (by omega) _ rfl, Nat.le_refl _, Rd.nil _ _ _ _⟩
  rw [size_al] at hl17
  have hbl17 : Below w16.heap.size w16 _ := bl_alloc (bl_alloc (Below.refl _ _) (.cells #[.int .i64 97] 3)) (.cells #[.int .i64 3, .slice none 0 0, .slice (some ⟨w16.heap.size, 0, none⟩) 1 1, .slice none 0 0] 28)
  refine (text_lit [⟨3, [], [97], []⟩] _ nx4 (by decide) tlen4 1 rfl (by omega) _ ((HG.out.below h16).below hbl17) (some ⟨w16.heap.size + 1, 0, none⟩) 1 (Nat.le_refl _) hl17).mono ?_
  rintro e w17 ⟨rfl, g17⟩
  replace g17 := bl_trans g17 hbl17
  have h17 := bl_trans g17 h16
  clear hl17 hbl17
  unfold strV
  go_wp2_with fail
  go_ret
  exact ⟨rfl, h17⟩
end Go.Proofs.T
namespace Go.Proofs.T
open Go.RowKit
/-! ### The plain law of nests -/
theorem numbersT_kind (s : List Int) (l : List Dec) : (numbersT s l).1.kind ≠ 5 := by
  unfold numbersT
  split
  · decide
  · split
    · decide
    · split
      · decide
      · split
        · show (4 : Int) ≠ 5; decide
        · show (if _ then (1 : Int) else 2) ≠ 5
          split <;> decide
theorem joinedN_kind (s : List Int) (kids : List (List Node)) : (joinedN s kids).1.kind ≠ 5 := by
  unfold joinedN
  split
  · decide
  · split
    · show (3 : Int) ≠ 5; decide
    · exact numbersT_kind _ _
theorem flat_eq {F : List Node → List Node} : ∀ (ks : List (List Node)), (∀ k ∈ ks, (F k).length ≤ k.length) → (ks.map F).flatten = ks.flatten → ∀ k ∈ ks, F k = k
  | [], _, _, k, hk => by cases hk
  | x :: ks, h, he, k, hk => by
    rw [List.map_cons, List.flatten_cons, List.flatten_cons] at he
    have h1 := h x (by simp)
    have h2 := sum_le (f := F) (ks := ks) fun k hk => h k (List.mem_cons_of_mem _ hk)
    have h3 := congrArg List.length he
    rw [List.length_append, List.length_append] at h3
    obtain ⟨e1, e2⟩ := List.append_inj he (by omega)
    rcases List.mem_cons.1 hk with rfl | hk
    · exact e1
    · exact flat_eq ks (fun k hk => h k (List.mem_cons_of_mem _ hk)) e2 k hk
/-- The kids of a right nest: right arrays, shorter than it. -/
theorem kids_facts {n : Node} {rest : List Node} (hr : rightA (n :: rest) = true) (h5 : n.kind = 5) : (kidsL (rest.length + 1) rest).flatten = rest ∧ ∀ k ∈ kidsL (rest.length + 1) rest, rightA k = true ∧ k.length ≤ rest.length ∧ ∀ x ∈ k, x ∈ rest := by
  have hK := KidsC.of hr h5
  have hsp := kidsL_spec (rest.length + 1) (itemsN n) rest (by omega) hK.2
  refine ⟨hsp.2.1, fun k hk => ⟨(hsp.2.2 k hk).1, (hsp.2.2 k hk).2, fun x hx => ?_⟩⟩
  rw [← hsp.2.1]
  exact List.mem_flatten.2 ⟨k, hk, hx⟩
theorem formN_fuel : ∀ (f g : Nat) (a : List Node), a.length ≤ f → a.length ≤ g → rightA a = true → formN f a = formN g a
  | 0, g, a, hf, _, hr => by have := ((rightA_iff a).1 hr).1; omega
  | f + 1, 0, a, _, hg, hr => by have := ((rightA_iff a).1 hr).1; omega
  | f + 1, g + 1, [], _, _, hr => by have := ((rightA_iff []).1 hr).1; simp at this
  | f + 1, g + 1, n :: rest, hf, hg, hr => by
    simp only [List.length_cons] at hf hg
    unfold formN
    by_cases h5 : n.kind = 5
    · have hkf := kids_facts hr h5
      have : (kidsL (rest.length + 1) rest).map (formN f) = (kidsL (rest.length + 1) rest).map (formN g) := List.map_congr_left fun k hk => formN_fuel f g k (by have := hkf.2 k hk; omega) (by have := hkf.2 k hk; omega) (hkf.2 k hk).1
      rw [this]
    · simp only [if_neg h5]
theorem textN_fuel : ∀ (f g : Nat) (a : List Node), a.length ≤ f → a.length ≤ g → rightA a = true → textN f a = textN g a
  | 0, g, a, hf, _, hr => by have := ((rightA_iff a).1 hr).1; omega
  | f + 1, 0, a, _, hg, hr => by have := ((rightA_iff a).1 hr).1; omega
  | f + 1, g + 1, [], _, _, hr => by have := ((rightA_iff []).1 hr).1; simp at this
  | f + 1, g + 1, n :: rest, hf, hg, hr => by
    simp only [List.length_cons] at hf hg
    unfold textN
    by_cases h5 : n.kind = 5
    · rw [if_pos h5, if_pos h5]
      have hkf := kids_facts hr h5
      congr 1
      have e : ∀ ks : List (List Node), (∀ k ∈ ks, textN f k = textN g k) → (ks.flatMap fun k => [40] ++ textN f k ++ [41]) = ks.flatMap fun k => [40] ++ textN g k ++ [41] := by
        intro ks
        induction ks with
        | nil => intro _; rfl
        | cons k ks ih =>
          intro h
          rw [List.flatMap_cons, List.flatMap_cons, h k (by simp), ih fun k hk => h k (List.mem_cons_of_mem _ hk)]
      exact e _ fun k hk => textN_fuel f g k (by have := hkf.2 k hk; omega) (by have := hkf.2 k hk; omega) (hkf.2 k hk).1
    · rw [if_neg h5, if_neg h5]
/-- A tight nest's kids are tight. -/
theorem tight_kids {n : Node} {rest : List Node} (ht : tightN (n :: rest) = true) (h5 : n.kind = 5) (hn : NodesOk (n :: rest)) (hi : InOk (n :: rest)) (hl : (n :: rest).length ≤ 1000000000) : ∀ k ∈ kidsL (rest.length + 1) rest, tightN k = true := by
  have hr := tight_right ht
  have hkf := kids_facts hr h5
  have hfm : n :: rest = formN (rest.length + 1) (n :: rest) := by
    unfold tightN formA at ht
    simp only [Bool.and_eq_true, beq_iff_eq] at ht
    exact ht.2
  simp only [List.length_cons] at hl
  unfold formN at hfm
  rw [if_neg (by omega), if_pos h5] at hfm
  have hle : ∀ k ∈ kidsL (rest.length + 1) rest, (formN rest.length k).length ≤ k.length := fun k hk => by
    have h := hkf.2 k hk
    exact (formN_fit rest.length k h.2.1 (by omega) h.1 (fun x hx => hn x (List.mem_cons_of_mem _ (h.2.2 x hx))) (fun x hx => hi x (List.mem_cons_of_mem _ (h.2.2 x hx)))).le
  split at hfm
  · injection hfm with h1 _
    exact absurd h5 (by rw [h1]; exact joinedN_kind _ _)
  · injection hfm with _ h2
    have heq := flat_eq (kidsL (rest.length + 1) rest) hle (by rw [← h2, hkf.1])
    intro k hk
    have h := hkf.2 k hk
    unfold tightN formA
    rw [h.1, formN_fuel k.length rest.length k (Nat.le_refl _) h.2.1 h.1, heq k hk]
    simp
/-- The notation of a tight nest is made of its kids'. -/
theorem nest_text {n : Node} {rest : List Node} (ht : tightN (n :: rest) = true) (h5 : n.kind = 5) (hn : NodesOk (n :: rest)) (hi : InOk (n :: rest)) (hl : (n :: rest).length ≤ 1000000000) :
    notT (n :: rest) = headT n ++ (kidsL (rest.length + 1) rest).flatMap fun k => [40] ++ notT k ++ [41] := by
  have hr := tight_right ht
  have hkf := kids_facts hr h5
  have htk := tight_kids ht h5 hn hi hl
  rw [notT, if_pos ht, List.length_cons, textN, if_pos h5]
  congr 1
  have e : ∀ ks : List (List Node), (∀ k ∈ ks, tightN k = true ∧ k.length ≤ rest.length ∧ rightA k = true) → (ks.flatMap fun k => [40] ++ textN rest.length k ++ [41]) = ks.flatMap fun k => [40] ++ notT k ++ [41] := by
    intro ks
    induction ks with
    | nil => intro _; rfl
    | cons k ks ih =>
      intro h
      obtain ⟨h1, h2, h3⟩ := h k (by simp)
      rw [List.flatMap_cons, List.flatMap_cons, ih fun k hk => h k (List.mem_cons_of_mem _ hk), notT, if_pos h1, textN_fuel rest.length k.length k h2 (Nat.le_refl _) h3]
  exact e _ fun k hk => ⟨htk k hk, (hkf.2 k hk).2.1, (hkf.2 k hk).1⟩
theorem fewL_ok : ∀ (f : Nat) (a : List Node) (n : Int), a.length ≤ f → (fewL f a n).1 = true → ∀ x ∈ a, x.shape.length ≤ 30 ∧ x.ints.length ≤ 300 ∧ x.decs.length ≤ 300
  | _, [], _, _, _ => fun x hx => by cases hx
  | 0, _ :: _, _, hf, _ => by simp at hf
  | f + 1, y :: r, n, hf, h => fun x hx => by
    unfold fewL at h
    split at h
    · cases h
    · simp only [List.length_cons] at hf
      rcases List.mem_cons.1 hx with rfl | hx
      · omega
      · exact fewL_ok f r _ (by omega) h x hx
theorem fewN_ok {a : List Node} (h : fewN a = true) : a.length ≤ 100 ∧ ∀ x ∈ a, x.shape.length ≤ 30 ∧ x.ints.length ≤ 300 ∧ x.decs.length ≤ 300 := by
  unfold fewN at h
  simp only [Bool.and_eq_true, decide_eq_true_eq] at h
  exact ⟨h.2.1, fewL_ok 200 a 0 (by omega) h.1⟩
end Go.Proofs.T
namespace Go.Proofs.T
open Go.RowKit
theorem few_bd {a : List Node} (hf : ∀ x ∈ a, x.shape.length ≤ 30 ∧ x.ints.length ≤ 300 ∧ x.decs.length ≤ 300) (hx : NodesOk a) : ∀ x ∈ a, NBd 300 x := fun x hm => ⟨hx x hm, by have := hf x hm; omega, (hf x hm).2.1, (hf x hm).2.2⟩
theorem notT_le {a : List Node} (hf : ∀ x ∈ a, NBd 300 x) (hl : a.length ≤ 100) : (notT a).length ≤ 3000000 := by
  unfold notT
  split
  · next h =>
    have h3 := textN_le _ _ (Nat.le_refl _) (tight_right h) hf
    have h4 : a.length * (75 * 300 + 7) ≤ 100 * (75 * 300 + 7) := Nat.mul_le_mul_right _ hl
    omega
  · simp
def kidP (k : List Node) : List UInt8 := [40] ++ notT k ++ [41]
set_option maxHeartbeats 4000000 in
set_option maxRecDepth 100000 in
theorem nests_main (bb o c : Nat) (n : Node) (rest : List Node) (ok : Nat → Prop) (w : World) (h : Rd lNode w ok (some ⟨bb, o, none⟩) (n :: rest).length (n :: rest)) (hc : (n :: rest).length ≤ c) (hx : NodesOk (n :: rest)) (hG : Glob w)
    (hfew : fewN (n :: rest) = true) (ht : tightN (n :: rest) = true) (h5 : n.kind = 5) :
    Calls Tryz.prog 3 #[.slice (some ⟨bb, o, none⟩) (n :: rest).length c] w fun e w' => e = .returned (.bool true) ∧ Below w.heap.size w w' := by
  have hfo := fewN_ok hfew
  have hnb := few_bd hfo.2 hx
  have hio : InOk (n :: rest) := fun x hm => by have := hfo.2 x hm; omega
  have hlen : (n :: rest).length ≤ 100 := hfo.1
  have htx := nest_text ht h5 hx hio (by omega)
  have hle := notT_le hnb hlen
  have hkf := kids_facts (tight_right ht) h5
  have hh : Rd lNode w (fun k => ok k ∧ k < w.heap.size) (some ⟨bb, o, none⟩) (n :: rest).length (n :: rest) := h.mono (by decide) fun k hk hlt => ⟨hk, hlt⟩
  obtain ⟨A1, c1, A2, c2, A3, c3, ⟨q0, q1, q2, q3⟩, hn⟩ := hh.nodeAt 0 (by simp)
  simp only [Nat.zero_mul, Nat.add_zero, List.getElem_cons_zero] at q0 q1 q2 q3 hn
  have l0 := cell_lt q0
  have HS := Lib.hid (small_any w hG)
  have HF := Lib.hid (fun W (hW : Below w.heap.size w W) => few_any (some ⟨bb, o, none⟩) c (n :: rest) _ W (hh.below (by decide) hW))
  have HT := Lib.hid (fun W (hW : Below w.heap.size w W) => tightRight_any (some ⟨bb, o, none⟩) c (n :: rest) _ W (hh.below (by decide) hW) hc hx hio (by omega))
  have HK := Lib.hid (fun W (hW : Below w.heap.size w W) => kids_some bb o c n rest _ W (hh.below (by decide) hW) hc hx (by omega) hio (tight_right ht) h5 (fun k hk => Nat.lt_of_lt_of_le hk.2 hW.size))
  have HX := Lib.hid (fun W (hW : Below w.heap.size w W) => text_any (some ⟨bb, o, none⟩) c (n :: rest) _ W (hh.below (by decide) hW) hc hx hio (by omega) (hG.below hW) (fun _ => by have := textN_le _ _ (Nat.le_refl _) (tight_right ht) hnb; have h4 : (n :: rest).length * (75 * 300 + 7) ≤ 100 * (75 * 300 + 7) := Nat.mul_le_mul_right _ hlen; omega))
  have HKT := Lib.hid (fun k (hk : k ∈ kidsL (rest.length + 1) rest) W (hW : Below w.heap.size w W) A c' (ok' : Nat → Prop) (hR : Rd lNode W ok' A k.length k) (hc' : k.length ≤ c') => text_any A c' k ok' W hR hc' (fun x hm => hx x (List.mem_cons_of_mem _ ((hkf.2 k hk).2.2 x hm))) (fun x hm => hio x (List.mem_cons_of_mem _ ((hkf.2 k hk).2.2 x hm))) (by have := (hkf.2 k hk).2.1; simp only [List.length_cons] at hlen; omega) (hG.below hW) (fun _ => by
    have h7 := textN_le (N := 300) _ _ (Nat.le_refl _) (hkf.2 k hk).1 (fun x hm => hnb x (List.mem_cons_of_mem _ ((hkf.2 k hk).2.2 x hm)))
    have h8 := (hkf.2 k hk).2.1
    simp only [List.length_cons] at hlen
    have h4 : k.length * (75 * 300 + 7) ≤ 100 * (75 * 300 + 7) := Nat.mul_le_mul_right _ (by omega)
    omega))
  have HI := Lib.hid (fun W (hW : Below w.heap.size w W) => ints_any A1 c1 n.shape _ W (hn.r1.below (by decide) hW) (hx n (by simp)).shape (hG.below hW) (by have := hfo.2 n (by simp); omega))
  have hil := intsT_len n.shape (hx n (by simp)).shape
  have hs30 := (hfo.2 n (by simp)).1
  have hkl := (kidsL_spec (rest.length + 1) (itemsN n) rest (by omega) (KidsC.of (tight_right ht) h5).2).1
  have hkb := itemsN_bd n
  rw [hfew] at HF
  rw [ht] at HT
  simp only [List.length_cons] at HK
  have htx2 : notT (n :: rest) = headT n ++ (kidsL (rest.length + 1) rest).flatMap kidP := htx
  rw [htx2] at HX hle
  generalize kidsL (rest.length + 1) rest = kids at *
  have hkl2 : kids.length ≤ 1048576 := by omega
  have k1 : (n.kind == 5) = true := by simpa using h5
  rw [h5] at q0
  simp only [List.length_cons] at HF HT HX hc hlen h ⊢
  have hm := h.max
  clear hh hn h hfew ht h5 hfo hnb hio hkf htx htx2 hkl hkb hx hG
  by_cases hs : 0 < n.shape.length
  · have k2 : decide (0 < n.shape.length) = true := by simpa using hs
    have HHD : Hid (headT n = intsT n.shape ++ [226, 141, 180]) := by show _ = _; unfold headT; rw [if_pos hs]
    generalize hst0 : intsT n.shape = s at HI hil HHD
    have k3 : ¬ 9223372036854775807 < s.length + 3 := by omega
    unfold strV at HI
    clear hs hst0 hil
    go_enter Tryz.func3, Tryz.ntmps3
    go_wp2_with (first
      | (go_at_call 6; refine HS.out.mono ?_; rintro e w1 ⟨rfl, hb1⟩; have y0 := (hb1.cell (cell_lt q0)).trans q0; have y1 := (hb1.cell (cell_lt q1)).trans q1)
      | (go_at_call 7; refine (HF.out _ hb1).mono ?_; rintro e w2 ⟨rfl, hb2⟩; have hw2 := bl_trans hb2 hb1)
      | (go_at_call 8; refine (HT.out _ hw2).mono ?_; rintro e w3 ⟨rfl, hb3⟩; have hw3 := bl_trans hb3 hw2; have y2 := (hw3.cell (cell_lt q0)).trans q0; have y3 := (hw3.cell (cell_lt q1)).trans q1)
      | (go_at_call 9; refine (HK.out _ hw3).mono ?_; rintro e w4 ⟨vk, csk, rfl, hok, hpk, hb4⟩; have hw4 := bl_trans hb4 hw3; have y4 := (hw4.cell (cell_lt q0)).trans q0; have y5 := (hw4.cell (cell_lt q1)).trans q1)
      | (go_at_call 10; refine (HI.out _ hw4).mono ?_; rintro e w5 ⟨rfl, hb5⟩; have hw5 := bl_trans hb5 hw4))
    obtain ⟨Ak, ck, rfl, hlk, hrk⟩ := Rd.own (L := lNodes) (ok := tr) hok (hpk.mono fun _ _ _ => trivial) (fun _ _ => trivial) (by omega)
    have HRK := Lib.hid ((hrk.below (by decide) hb5))
    clear hok hpk hrk
    go_loopg [6, 7] kids.length (fun gg v6 v7 wr => ∃ (i : Nat) (q : List UInt8), i ≤ kids.length ∧ gg = kids.length - i ∧ v7 = .int .i64 i ∧ v6 = .string ⟨q.toArray⟩ ∧ Hid (q = headT n ++ (kids.take i).flatMap kidP) ∧ Below w.heap.size w wr ∧ Hid (Rd lNodes wr tr Ak kids.length kids))
    case atStart => exact ⟨0, s ++ [226, 141, 180], by omega, by omega, rfl, (by rw [← bcat]), (by show _ = _; rw [HHD.out]; simp), hw5, HRK⟩
    case round =>
      obtain ⟨i, q, hi, rfl, rfl, rfl, HQ, hb, hR⟩ := hrel
      by_cases hlt : i < kids.length
      · obtain ⟨bk, ok1, hA, _⟩ := hR.out.row (by omega)
        subst hA
        obtain ⟨Ai, ci, e0, li, ri⟩ := hR.out.nodesAt i hlt
        have hmem := List.getElem_mem hlt
        have htk : kids.take (i + 1) = kids.take i ++ [kids[i]] := List.take_succ_eq_append_getElem hlt
        have hall : kids = kids.take i ++ kids[i] :: kids.drop (i + 1) := by rw [← List.drop_eq_getElem_cons hlt, List.take_append_drop]
        have hql : q.length + (kidP kids[i]).length ≤ 3000000 := by
          rw [hall, List.flatMap_append, List.flatMap_cons] at hle
          rw [HQ.out]
          simp only [List.length_append] at hle ⊢
          omega
        have hst : Hid (q ++ kidP kids[i] = headT n ++ (kids.take (i + 1)).flatMap kidP) := by
          show _ = _
          rw [htk, List.flatMap_append, HQ.out]; simp
        have hcal := HKT.out kids[i] hmem wr hb Ai ci tr ri li
        unfold kidP at hql hst
        generalize kids[i].length = m at e0 hcal
        generalize notT kids[i] = t at hcal hql hst
        simp only [List.length_append, List.length_cons, List.length_nil] at hql
        have HC := Lib.hid hcal
        unfold strV at HC
        have hR2 := hR
        have j1 : ¬ 9223372036854775807 < q.length + 1 := by omega
        have j2 : ¬ 9223372036854775807 < q.length + 1 + t.length := by omega
        have j3 : ¬ 9223372036854775807 < q.length + 1 + t.length + 1 := by omega
        clear hcal htk hall hmem ri li hR HQ
        go_wp2_with (go_at_call 11; refine HC.out.mono ?_; rintro e w6 ⟨rfl, hb6⟩)
        go_roundg (kids.length - (i + 1))
        case measure => omega
        case rel => exact ⟨i + 1, q ++ ([40] ++ t ++ [41]), by omega, rfl, by go_num, (by rw [← bcat, ← bcat, ← bcat]; simp only [ByteArray.append_assoc]), hst.out, bl_trans hb6 hb, hR2.out.below (by decide) hb6⟩
      · have hkn : i = kids.length := by omega
        have hq := HQ.out
        rw [hkn, List.take_length] at hq
        have HX2 := HX.out wr hb
        rw [← hq] at HX2
        have HC := Lib.hid HX2
        unfold strV at HC
        clear HX2 hq HQ hkn hle HHD
        go_wp2_with (go_at_call 11; refine HC.out.mono ?_; rintro e w6 ⟨rfl, hb6⟩)
        go_ret
        exact ⟨by simp, bl_trans hb6 hb⟩
  · have k2 : decide (0 < n.shape.length) = false := by simpa using hs
    have HHD : Hid (headT n = [226, 138, 130]) := by show _ = _; unfold headT; rw [if_neg hs, if_pos (by simpa using k1)]
    clear hs hil HI
    go_enter Tryz.func3, Tryz.ntmps3
    go_wp2_with (first
      | (go_at_call 6; refine HS.out.mono ?_; rintro e w1 ⟨rfl, hb1⟩; have y0 := (hb1.cell (cell_lt q0)).trans q0; have y1 := (hb1.cell (cell_lt q1)).trans q1)
      | (go_at_call 7; refine (HF.out _ hb1).mono ?_; rintro e w2 ⟨rfl, hb2⟩; have hw2 := bl_trans hb2 hb1)
      | (go_at_call 8; refine (HT.out _ hw2).mono ?_; rintro e w3 ⟨rfl, hb3⟩; have hw3 := bl_trans hb3 hw2; have y2 := (hw3.cell (cell_lt q0)).trans q0; have y3 := (hw3.cell (cell_lt q1)).trans q1)
      | (go_at_call 9; refine (HK.out _ hw3).mono ?_; rintro e w4 ⟨vk, csk, rfl, hok, hpk, hb4⟩; have hw4 := bl_trans hb4 hw3; have y4 := (hw4.cell (cell_lt q0)).trans q0; have y5 := (hw4.cell (cell_lt q1)).trans q1))
    obtain ⟨Ak, ck, rfl, hlk, hrk⟩ := Rd.own (L := lNodes) (ok := tr) hok (hpk.mono fun _ _ _ => trivial) (fun _ _ => trivial) (by omega)
    have HRK := Lib.hid (hrk)
    clear hok hpk hrk
    go_loopg [6, 7] kids.length (fun gg v6 v7 wr => ∃ (i : Nat) (q : List UInt8), i ≤ kids.length ∧ gg = kids.length - i ∧ v7 = .int .i64 i ∧ v6 = .string ⟨q.toArray⟩ ∧ Hid (q = headT n ++ (kids.take i).flatMap kidP) ∧ Below w.heap.size w wr ∧ Hid (Rd lNodes wr tr Ak kids.length kids))
    case atStart => exact ⟨0, [226, 138, 130], by omega, by omega, rfl, rfl, (by show _ = _; rw [HHD.out]; simp), hw4, HRK⟩
    case round =>
      obtain ⟨i, q, hi, rfl, rfl, rfl, HQ, hb, hR⟩ := hrel
      by_cases hlt : i < kids.length
      · obtain ⟨bk, ok1, hA, _⟩ := hR.out.row (by omega)
        subst hA
        obtain ⟨Ai, ci, e0, li, ri⟩ := hR.out.nodesAt i hlt
        have hmem := List.getElem_mem hlt
        have htk : kids.take (i + 1) = kids.take i ++ [kids[i]] := List.take_succ_eq_append_getElem hlt
        have hall : kids = kids.take i ++ kids[i] :: kids.drop (i + 1) := by rw [← List.drop_eq_getElem_cons hlt, List.take_append_drop]
        have hql : q.length + (kidP kids[i]).length ≤ 3000000 := by
          rw [hall, List.flatMap_append, List.flatMap_cons] at hle
          rw [HQ.out]
          simp only [List.length_append] at hle ⊢
          omega
        have hst : Hid (q ++ kidP kids[i] = headT n ++ (kids.take (i + 1)).flatMap kidP) := by
          show _ = _
          rw [htk, List.flatMap_append, HQ.out]; simp
        have hcal := HKT.out kids[i] hmem wr hb Ai ci tr ri li
        unfold kidP at hql hst
        generalize kids[i].length = m at e0 hcal
        generalize notT kids[i] = t at hcal hql hst
        simp only [List.length_append, List.length_cons, List.length_nil] at hql
        have HC := Lib.hid hcal
        unfold strV at HC
        have hR2 := hR
        have j1 : ¬ 9223372036854775807 < q.length + 1 := by omega
        have j2 : ¬ 9223372036854775807 < q.length + 1 + t.length := by omega
        have j3 : ¬ 9223372036854775807 < q.length + 1 + t.length + 1 := by omega
        clear hcal htk hall hmem ri li hR HQ
        go_wp2_with (go_at_call 11; refine HC.out.mono ?_; rintro e w6 ⟨rfl, hb6⟩)
        go_roundg (kids.length - (i + 1))
        case measure => omega
        case rel => exact ⟨i + 1, q ++ ([40] ++ t ++ [41]), by omega, rfl, by go_num, (by rw [← bcat, ← bcat, ← bcat]; simp only [ByteArray.append_assoc]), hst.out, bl_trans hb6 hb, hR2.out.below (by decide) hb6⟩
      · have hkn : i = kids.length := by omega
        have hq := HQ.out
        rw [hkn, List.take_length] at hq
        have HX2 := HX.out wr hb
        rw [← hq] at HX2
        have HC := Lib.hid HX2
        unfold strV at HC
        clear HX2 hq HQ hkn hle HHD
        go_wp2_with (go_at_call 11; refine HC.out.mono ?_; rintro e w6 ⟨rfl, hb6⟩)
        go_ret
        exact ⟨by simp, bl_trans hb6 hb⟩
set_option maxHeartbeats 4000000 in
set_option maxRecDepth 100000 in
theorem nests_any (A : Option Addr) (c : Nat) (a : List Node) (ok : Nat → Prop) (w : World) (h : Rd lNode w ok A a.length a) (hc : a.length ≤ c) (hx : NodesOk a) (hG : Glob w) :
    Calls Tryz.prog 3 #[.slice A a.length c] w fun e w' => e = .returned (.bool true) ∧ Below w.heap.size w w' := by
  have HS := Lib.hid (small_any w hG)
  have hm := h.max
  have hh : Rd lNode w (fun k => ok k ∧ k < w.heap.size) A a.length a := h.mono (by decide) fun k hk hlt => ⟨hk, hlt⟩
  have HF := Lib.hid (fun W (hW : Below w.heap.size w W) => few_any A c a _ W (hh.below (by decide) hW))
  cases hfew : fewN a with
  | false =>
    rw [hfew] at HF
    clear h hc hx hG hh hfew
    go_enter Tryz.func3, Tryz.ntmps3
    go_wp2_with (first
      | (go_at_call 6; refine HS.out.mono ?_; rintro e w1 ⟨rfl, hb1⟩)
      | (go_at_call 7; refine (HF.out _ hb1).mono ?_; rintro e w2 ⟨rfl, hb2⟩; have hw2 := bl_trans hb2 hb1))
    go_ret
    exact ⟨rfl, hw2⟩
  | true =>
    have hfo := fewN_ok hfew
    have hio : InOk a := fun x hm => by have := hfo.2 x hm; omega
    cases ht : tightN a with
    | false =>
      have HT := Lib.hid (fun W (hW : Below w.heap.size w W) => tightRight_any A c a _ W (hh.below (by decide) hW) hc hx hio (by omega))
      rw [hfew] at HF
      rw [ht] at HT
      clear h hc hx hG hh hfew hfo hio ht
      go_enter Tryz.func3, Tryz.ntmps3
      go_wp2_with (first
        | (go_at_call 6; refine HS.out.mono ?_; rintro e w1 ⟨rfl, hb1⟩)
        | (go_at_call 7; refine (HF.out _ hb1).mono ?_; rintro e w2 ⟨rfl, hb2⟩; have hw2 := bl_trans hb2 hb1)
        | (go_at_call 8; refine (HT.out _ hw2).mono ?_; rintro e w3 ⟨rfl, hb3⟩; have hw3 := bl_trans hb3 hw2))
      go_ret
      exact ⟨rfl, hw3⟩
    | true =>
      cases a with
      | nil => have := ((rightA_iff []).1 (tight_right ht)).1; simp at this
      | cons n rest =>
        obtain ⟨bb, o, rfl, _⟩ := h.row (by simp)
        by_cases h5 : n.kind = 5
        · exact nests_main bb o c n rest ok w h hc hx hG hfew ht h5
        · have HT := Lib.hid (fun W (hW : Below w.heap.size w W) => tightRight_any (some ⟨bb, o, none⟩) c (n :: rest) _ W (hh.below (by decide) hW) hc hx hio (by omega))
          obtain ⟨A1, c1, A2, c2, A3, c3, ⟨q0, q1, q2, q3⟩, hn⟩ := hh.nodeAt 0 (by simp)
          simp only [Nat.zero_mul, Nat.add_zero, List.getElem_cons_zero] at q0
          rw [hfew] at HF
          rw [ht] at HT
          have k1 : (n.kind == 5) = false := by simpa using h5
          simp only [List.length_cons] at HF HT hm ⊢
          clear h hc hx hG hh hfew hfo hio ht h5 q1 q2 q3 hn
          go_enter Tryz.func3, Tryz.ntmps3
          go_wp2_with (first
            | (go_at_call 6; refine HS.out.mono ?_; rintro e w1 ⟨rfl, hb1⟩)
            | (go_at_call 7; refine (HF.out _ hb1).mono ?_; rintro e w2 ⟨rfl, hb2⟩; have hw2 := bl_trans hb2 hb1)
            | (go_at_call 8; refine (HT.out _ hw2).mono ?_; rintro e w3 ⟨rfl, hb3⟩; have hw3 := bl_trans hb3 hw2; have y2 := (hw3.cell (cell_lt q0)).trans q0))
          go_ret
          exact ⟨rfl, hw3⟩
end Go.Proofs.T
namespace Go.Proofs.T
open Go.RowKit Go.Deep
/-! ### Arguments that came in, read as trees -/
section
variable {H : Type} {enc : TypeId × Value → H} {w : World} {base : Nat} {spare : Nat → Bool} {held : Bool}
theorem spot_none {w : World} {b o : Nat} {sp : Option Nat} {v : Value} (h : w.cell? ⟨b, o, sp⟩ = some v) : sp = none := by
  cases sp with
  | none => rfl
  | some x =>
    unfold World.cell? at h
    split at h <;> simp at h
theorem list_choose {α : Type} {n : Nat} {p : Nat → α → Prop} (h : ∀ i, i < n → ∃ x, p i x) : ∃ xs : List α, xs.length = n ∧ ∀ i x, xs[i]? = some x → p i x := by
  induction n with
  | zero => exact ⟨[], rfl, fun i x h => by simp at h⟩
  | succ n ih =>
    obtain ⟨xs, h1, h2⟩ := ih fun i hi => h i (by omega)
    obtain ⟨x, hx⟩ := h n (by omega)
    refine ⟨xs ++ [x], by simp [h1], fun i y hy => ?_⟩
    by_cases hi : i < n
    · rw [List.getElem?_append_left (by omega)] at hy
      exact h2 i y hy
    · have hl := (List.getElem?_eq_some_iff.1 hy).1
      simp [h1] at hl
      obtain rfl : i = n := by omega
      rw [List.getElem?_append_right (by omega)] at hy
      simp [h1] at hy
      subst hy; exact hx
/-- Whatever reads at this type, reads so. -/
def RdT (enc : TypeId × Value → H) (w : World) (base : Nat) (spare : Nat → Bool) (held : Bool) {α : Type} (t : TypeId) (L : Ly α) (g : α → Prop) : Prop :=
  ∀ (n : Nat) (cs : List Value) (x : DataW H × List MemPlace), DataW.trod enc Tryz.prog w base spare held n t cs = some x → ∃ a, L.K w tr a cs ∧ g a
theorem rdt_int {t : TypeId} (ht : Tryz.prog.underlying t = some (.int .i64)) : RdT enc w base spare held t Ly.i64 I64 := fun n cs x h => by
  obtain ⟨z, rfl, _, hw⟩ := DataW.trod_int ht h
  refine ⟨z, rfl, ?_⟩
  have e1 : IntKind.i64.min = -9223372036854775808 := rfl
  have e2 : IntKind.i64.max = 9223372036854775807 := rfl
  simp [Lit.wf] at hw
  unfold I64; omega
set_option maxRecDepth 100000 in
theorem rdt_slice {α : Type} {t e : TypeId} {L : Ly α} {g : α → Prop} (hz : 0 < L.sz) (ht : Tryz.prog.underlying t = some (.slice e)) (hc : Tryz.prog.cellsOf e = L.sz) (he : RdT enc w base spare held e L g) : RdT enc w base spare held t (L.sl hz) (fun xs => ∀ x ∈ xs, g x) := fun n cs x h => by
  rcases open_slice ht h with ⟨rfl, _⟩ | ⟨a, len, cap, m, n', D, Pl, rfl, _, hl, hm, hmm, _, hx⟩
  · exact ⟨[], ⟨none, 0, rfl, Nat.le_refl _, Rd.nil _ _ _ _⟩, fun x hx => by cases hx⟩
  · have hlm : len ≤ m := by rw [hmm]; split <;> omega
    obtain ⟨xs, h1, h2⟩ := list_choose (α := α) (n := len) (p := fun i x => (∃ cs', w.cells? base (a.add (i * L.sz)) L.sz = some cs' ∧ L.K w tr x cs') ∧ g x) fun i hi => by
      obtain ⟨cs', q1, q2⟩ := hx i (by omega)
      obtain ⟨y, k1, k2⟩ := he _ _ _ q2
      rw [hc] at q1
      exact ⟨y, ⟨cs', q1, k1⟩, k2⟩
    subst h1
    refine ⟨xs, ⟨some a, cap, rfl, hl, rfl, by unfold maxLen at hm; omega, fun h0 => ?_⟩, fun x hx => ?_⟩
    · obtain ⟨b, o, sp⟩ := a
      obtain rfl : sp = none := by
        have hx0 := h2 0 (xs[0]'h0) (by simp)
        obtain ⟨⟨cs', q1, k1⟩, _⟩ := hx0
        obtain ⟨_, hcl, hat⟩ := World.cells?_some q1
        have h3 := hat 0 hz
        rw [List.getElem?_eq_getElem (by omega : 0 < cs'.length)] at h3
        cases sp with
        | none => rfl
        | some q => exact spot_none (b := b) (o := o) (by simpa [Addr.add] using h3)
      refine ⟨b, o, rfl, trivial, fun i x hi => ?_⟩
      obtain ⟨⟨cs', q1, k1⟩, _⟩ := h2 i x hi
      refine ⟨cs', k1, fun j u hu => ?_⟩
      obtain ⟨_, hcl, hat⟩ := World.cells?_some q1
      have hj : j < cs'.length := (List.getElem?_eq_some_iff.1 hu).1
      have := hat j (by omega)
      rw [← hu, ← this, addr_add, addr_add]
      congr 2
      omega
    · obtain ⟨i, hi⟩ := List.getElem?_of_mem hx
      exact (h2 i x hi).2
set_option maxRecDepth 100000 in
theorem rdt_dec : RdT enc w base spare held 39 lDec DecOk := fun n cs x h => by
  obtain ⟨xs, n', rfl, _, hl, hxl, hf⟩ := DataW.trod_struct Tryz.underlying39 h
  have c39 : Tryz.prog.cellsOf 39 = 2 := by kernel_rfl
  have c3 : Tryz.prog.cellsOf 3 = 1 := by kernel_rfl
  rw [c39] at hl
  match cs, hl with
  | [a, b], _ =>
    have h0 : DataW.trod enc Tryz.prog w base spare held n' 3 (([a, b].drop 0).take (Tryz.prog.cellsOf 3)) = xs[0]? := hf 0 _ rfl
    have h1 : DataW.trod enc Tryz.prog w base spare held n' 3 (([a, b].drop 1).take (Tryz.prog.cellsOf 3)) = xs[1]? := hf 1 _ rfl
    rw [c3] at h0 h1
    have hx2 : xs.length = 2 := hxl
    rw [List.getElem?_eq_getElem (by omega)] at h0 h1
    obtain ⟨p, e1, g1⟩ := rdt_int Tryz.underlying3 _ _ _ h0
    obtain ⟨q, e2, g2⟩ := rdt_int Tryz.underlying3 _ _ _ h1
    refine ⟨⟨p, q⟩, ⟨[.int .i64 p], [.int .i64 q], ?_, rfl, rfl⟩, g1, g2⟩
    have e1' : [a] = [Value.int .i64 p] := e1
    have e2' : [b] = [Value.int .i64 q] := e2
    injection e1' with e1'
    injection e2' with e2'
    rw [e1', e2']; rfl
set_option maxRecDepth 100000 in
theorem rdt_node : RdT enc w base spare held 28 lNode NodeOk := fun n cs x h => by
  obtain ⟨xs, n', rfl, _, hl, hxl, hf⟩ := DataW.trod_struct Tryz.underlying28 h
  have c28 : Tryz.prog.cellsOf 28 = 4 := by kernel_rfl
  have c3 : Tryz.prog.cellsOf 3 = 1 := by kernel_rfl
  have c25 : Tryz.prog.cellsOf 25 = 1 := by kernel_rfl
  have c26 : Tryz.prog.cellsOf 26 = 1 := by kernel_rfl
  have c39 : Tryz.prog.cellsOf 39 = 2 := by kernel_rfl
  rw [c28] at hl
  match cs, hl with
  | [a, b, c, d], _ =>
    have h0 : DataW.trod enc Tryz.prog w base spare held n' 3 (([a, b, c, d].drop 0).take (Tryz.prog.cellsOf 3)) = xs[0]? := hf 0 _ rfl
    have h1 : DataW.trod enc Tryz.prog w base spare held n' 25 (([a, b, c, d].drop 1).take (Tryz.prog.cellsOf 25)) = xs[1]? := hf 1 _ rfl
    have h2 : DataW.trod enc Tryz.prog w base spare held n' 25 (([a, b, c, d].drop 2).take (Tryz.prog.cellsOf 25)) = xs[2]? := hf 2 _ rfl
    have h3 : DataW.trod enc Tryz.prog w base spare held n' 26 (([a, b, c, d].drop 3).take (Tryz.prog.cellsOf 26)) = xs[3]? := hf 3 _ rfl
    rw [c3] at h0
    rw [c25] at h1 h2
    rw [c26] at h3
    have hx2 : xs.length = 4 := hxl
    rw [List.getElem?_eq_getElem (by omega)] at h0 h1 h2 h3
    obtain ⟨p, e1, g1⟩ := rdt_int Tryz.underlying3 _ _ _ h0
    obtain ⟨q, e2, g2⟩ := rdt_slice (L := Ly.i64) (by decide) Tryz.underlying25 c3 (rdt_int Tryz.underlying3) _ _ _ h1
    obtain ⟨r, e3, g3⟩ := rdt_slice (L := Ly.i64) (by decide) Tryz.underlying25 c3 (rdt_int Tryz.underlying3) _ _ _ h2
    obtain ⟨s, e4, g4⟩ := rdt_slice (L := lDec) (by decide) Tryz.underlying26 c39 rdt_dec _ _ _ h3
    have e1' : [a] = [Value.int .i64 p] := e1
    injection e1' with e1'
    subst e1'
    exact ⟨⟨p, q, r, s⟩, ⟨[_], [b, c, d], rfl, rfl, [b], [c, d], rfl, e2, [c], [d], rfl, e3, e4⟩, ⟨g1, g2, g3, g4⟩⟩
theorem rdt_nodes : RdT enc w base spare held 22 lNodes NodesOk :=
  rdt_slice (L := lNode) (by decide) Tryz.underlying22 (by kernel_rfl) rdt_node
theorem rdt_ints : RdT enc w base spare held 25 lInts I64s :=
  rdt_slice (L := Ly.i64) (by decide) Tryz.underlying25 (by kernel_rfl) (rdt_int Tryz.underlying3)
end
/-! ### The package-level variables, out of the condition -/
open Go.Lib
def laid7 : List (String × DataW Unit) := YtafkenbfgmlkkaaGreatDoor.Rows.notationNestsRow.laid
theorem laid7_plain (W : World) : laidMetH Tryz.prog laid7 W = laidMet Tryz.prog laid7 W := MakeChecks.laidMetH_plain _ _ _ (by kernel_rfl)
theorem sentinel_row : ∀ u, Tryz.prog.typeName? 3 u = some "*errors.errorString" → u = 165 := typeName_ptr_named (nm := "errors.errorString") (by kernel_rfl) (by kernel_rfl) (by decide)
theorem first_mem : ("unicode/utf8.first", firstData) ∈ laid7 := by
  rw [← Pinned.utf8First_eq]
  exact .tail _ (.tail _ (.tail _ (.tail _ (.tail _ (.tail _ (.head _))))))
theorem accept_mem : ("unicode/utf8.acceptRanges", acceptData) ∈ laid7 := by
  rw [show (acceptData : DataW Unit) = YtafkenbfgmlkkaaGreatDoor.Rows.laid_unicode_utf8_acceptRanges by kernel_rfl]
  exact .tail _ (.tail _ (.tail _ (.head _)))
theorem glob_of_laid {W : World} (hsh : W.ShapedOpen Tryz.prog) (h : laidMetH Tryz.prog laid7 W) : Glob W := by
  rw [laid7_plain] at h
  have h2 := laidMet.tail (laidMet.tail h)
  have h4 := laidMet.tail (laidMet.tail h2)
  have h5 := laidMet.tail h4
  obtain ⟨a0, s0, v0, _⟩ := laid_sentinel (g := 7) (ti := 62) (tp := 165) (te := 167) (ts := 9) h4 (by kernel_rfl) (by kernel_rfl) Tryz.underlying62 sentinel_row Tryz.underlying165 Tryz.underlying167 rfl rfl Tryz.underlying9 (by kernel_rfl) (by kernel_rfl)
  obtain ⟨a1, s1, v1, _⟩ := laid_sentinel (g := 6) (ti := 62) (tp := 165) (te := 167) (ts := 9) h5 (by kernel_rfl) (by kernel_rfl) Tryz.underlying62 sentinel_row Tryz.underlying165 Tryz.underlying167 rfl rfl Tryz.underlying9 (by kernel_rfl) (by kernel_rfl)
  refine ⟨?_, ?_, ⟨_, _, v1⟩, ⟨_, _, v0⟩, ?_⟩
  · exact tabIs_of_head (g := 3) (t := 143) (e := 134) (n := 20) (by kernel_rfl) (by kernel_rfl) (by kernel_rfl) (by kernel_rfl) (by kernel_rfl) (by kernel_rfl) h2
  · exact cell_of_shapedOpen_int (t := 3) (zero := #[.int .i64 0]) hsh (of_decide_eq_true (by kernel_rfl)) (by kernel_rfl) (by kernel_rfl) (by kernel_rfl) (by kernel_rfl) Tryz.underlying3
  · exact utf8Tabs_of_readsT (U8Types.of196 Tryz.laysValid) ⟨by kernel_rfl, by kernel_rfl, by kernel_rfl, by kernel_rfl, by kernel_rfl, by kernel_rfl, by kernel_rfl⟩ (laidMet.reads h first_mem) (laidMet.reads h accept_mem)
end Go.Proofs.T
namespace Go.Proofs.T
open Go.ChangeShapes Go.WideShapes Go.ChangeAt Go.RowKit Go.Lib
open YtafkenbfgmlkkaaGreatDoor
theorem own : ownKnob Tryz.prog.godebug = none := by kernel_rfl
theorem laidOut : laidOutB Tryz.prog = true := by kernel_rfl
/-- The wrap of a row that lists variables, the world's shape kept. -/
theorem handed_both {H : Type} {enc : TypeId × Value → H} {a : Assume} {C : Checked} {os : Os} {f : FuncId} {fn : Func} {s : ChangeSpec} {conds : List PathCond} {apart fresh handsOn again : Bool} {X : World → Array Value → Prop}
    (hX : ∀ (w w' : World) (args : Array Value), w.heap = w'.heap → X w args → X w' args)
    (own : ownKnob C.prog.godebug = none) (started : os.Started) (noInit : C.prog.inits.idxOf? f = none) (hfn : C.prog.funcs[f]? = some fn)
    (witness : ∃ (w : World) (tape : Tape) (i : Input), w.os = os ∧ (w.forCall tape i).Shaped C.prog ∧ i.vars = [] ∧ Input.okWide C.prog (w.forCall tape i) .any w.heap.size f i ∧
      ((s.pre enc C.prog fn conds apart (w.forCall tape i).memory i.args ∧ X (w.forCall tape i).memory i.args) ∧ sizedMet enc C.prog fn (OpenSpec.ofChange s) apart (w.forCall tape i).memory i.args) ∧ a.holds C.prog (lone (Frame.enter C.prog f i.args .normal) [] (w.forCall tape i)))
    (contract : ∀ (W : World) (base : Nat) (args : Array Value) (ds gs : List (DataW H)) (before : List MemPlace),
      (∀ (j : Nat) t v, fn.params[j]? = some t → args[j]? = some v → Value.okWide C.prog W .any base t v) →
      DataW.Whole enc C.prog fn.params.toList s.vars apart W args.toList ds gs before →
      W.ShapedOpen C.prog → X W args →
      Calls C.prog f args W fun e W' => ∃ v, e = .returned v ∧ s.post enc C.prog fn apart fresh handsOn again W args v W') :
    ReturnsInHanded a C os f .any (fun w args => (s.pre enc C.prog fn conds apart w args ∧ X w args) ∧ sizedMet enc C.prog fn (OpenSpec.ofChange s) apart w args) (s.post enc C.prog fn apart fresh handsOn again) := by
  refine returnsInHanded_of_calls own started noInit witness ?_
  intro w tape i _ hsh _ hok hpre _
  obtain ⟨_, _, _, fn', hfn', _, _, _, _, hval⟩ := hok
  have e : fn' = fn := Option.some.inj (hfn'.symm.trans hfn)
  subst e
  obtain ⟨⟨⟨ds, gs, before, hw, _⟩, hx⟩, _⟩ := hpre
  have hw' := DataW.Whole.of_heap (w' := w.forCall tape i) (by rfl) hw
  refine (contract (w.forCall tape i) w.heap.size i.args ds gs before hval hw' hsh (hX _ _ _ (by rfl) hx)).mono fun e W' ⟨v, he, hp⟩ => ?_
  subst he
  exact ChangeSpec.post_blind hp
set_option maxRecDepth 100000 in
theorem nests_lifted (os : Os) (started : os.Started) (H : Type) (enc : TypeId × Value → H) :
    ReturnsInHanded {} Tryz.checked os 3 .any (fun w args => (Rows.notationNestsSpec.pre enc Tryz.prog Tryz.f3 Rows.notationNestsRow.domain false w args ∧ laidMetH Tryz.prog laid7 w) ∧ sizedMet enc Tryz.prog Tryz.f3 (OpenSpec.ofChange Rows.notationNestsSpec) false w args)
      (Rows.notationNestsSpec.post enc Tryz.prog Tryz.f3 false true false false) := by
  refine handed_both (C := Tryz.checked) (X := fun w _ => laidMetH Tryz.prog laid7 w) (fun _ _ _ hh h => h.of_heap hh) own started (by kernel_rfl) Tryz.func3
    (ChangeSpec.witness_shaped (enc := enc) (C := Tryz.checked) (os := os) (X := fun w _ => laidMetH Tryz.prog laid7 w) false (World.laidAll Tryz.prog os laid7) #[.slice none 0 0] 8 (World.laidAll_os _ _ _)
      (World.shaped_of_ZipB (by kernel_rfl) (by kernel_rfl)) (by kernel_rfl) (by kernel_rfl) (by kernel_rfl)
      (by rw [MakeChecks.laidMetH_plain _ _ _ (by kernel_rfl)]; exact laidMet_laidAll _ (by kernel_rfl) (by kernel_rfl))) ?_
  intro W base args ds gs before hval0 hW hsh hL
  have hG := glob_of_laid hsh hL
  have hval : ∀ (j : Nat) t v, Tryz.f3.params[j]? = some t → args[j]? = some v → Value.okWide Tryz.prog W .any base t v := hval0
  have hW' := hW
  obtain ⟨p, q, hA0, hV, rfl, _, _⟩ := hW
  have hA : DataW.TrodAll enc Tryz.prog W 0 (fun _ => true) true Tryz.f3.params.toList args.toList ds p := hA0
  rw [Tryz.params3] at hA hval
  obtain ⟨v0, d0, rfl, rfl, h0⟩ := trodAll_one hA
  obtain ⟨rfl, rfl⟩ := trodVars_none hV
  obtain ⟨a0, len0, cap0, rfl⟩ := okWide_slice Tryz.underlying22 (hval 0 22 v0 rfl rfl)
  have lt0 : ∀ x ∈ p, x.block < W.heap.size := by obtain ⟨m, hm⟩ := h0; exact DataW.trod_lt m _ _ _ hm
  obtain ⟨xs, ⟨A, c, hcs, hc, hr⟩, hn⟩ : ∃ xs, lNodes.K W tr xs (Value.slice a0 len0 cap0).cells.toList ∧ NodesOk xs := by
    obtain ⟨m, hm⟩ := h0
    exact rdt_nodes _ _ _ hm
  obtain ⟨rfl, rfl, rfl⟩ : a0 = A ∧ len0 = xs.length ∧ cap0 = c := by simpa [Value.cells] using hcs
  clear hA0 hval0
  refine (nests_any a0 cap0 xs tr W hr hc hn hG).mono fun e W' ⟨he, bel⟩ => ?_
  subst he
  exact ⟨_, rfl, _, _, _, [], _, [], hW', trodAll_mk1 (shut_bool Tryz.underlying4 _), trodAll_mk1 (Below.trod laidOut (by kernel_rfl) (of_decide_eq_true (by kernel_rfl)) h0 bel lt0), rfl, bel.frame _, fun h => by cases h⟩
end Go.Proofs.T
namespace Go.Proofs.YtafkenbfgmlkkaaGreatDoor
open Go Go.Proofs.T
theorem notationNests_said : Rows.NotationNestsSaid :=
  OpenClaim.holds_of_wide 3 Tryz.f3 rfl rfl rfl rfl rfl rfl rfl ⟨rfl, rfl, rfl, rfl, rfl⟩ rfl rfl rfl rfl rfl (by kernel_rfl) Tryz.func3 (by kernel_rfl)
    (of_decide_eq_true (by kernel_rfl)) (by unfold Func.isWrapper; first | (rw [if_pos (by decide +kernel)]; kernel_rfl) | (rw [if_neg (by decide +kernel)]; exact ⟨rfl, rfl⟩))
    (fun os started H enc _ => nests_lifted os started H enc)
theorem notationNests_holds : Rows.NotationNestsCardSaid :=
  Claim7.holds_tied_plain_at .later [] _ _ _ _ notationNests_said (fun _ h => by cases h) (by kernel_rfl) (fun _ h => by cases h) notationNests_row_tie rfl ⟨rfl, rfl⟩ (by kernel_rfl) rfl
    (fun f fn hf hfn => by
      obtain rfl : f = 3 := Option.some.inj ((show Tryz.prog.funcNamed "deckle/decklelaw14.NotationNests" = some 3 by kernel_rfl).symm.trans hf) |>.symm
      obtain rfl : fn = Tryz.f3 := (Option.some.inj (Tryz.func3.symm.trans hfn)).symm
      exact ⟨by kernel_rfl, fun j t ht => by
        rw [Tryz.params3] at ht
        have hm : t ∈ [22] := by simpa using Array.mem_of_getElem? ht
        have hall : ([22].all fun u => !Tryz.prog.wantsStandIn u) = true := by kernel_rfl
        exact (show Tryz.prog.wantsStandIn t = false by simpa using List.all_eq_true.1 hall t hm)⟩)
    (by kernel_rfl)
end Go.Proofs.YtafkenbfgmlkkaaGreatDoor
