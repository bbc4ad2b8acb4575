/- NotationNests holds for every input: the notation of a tight nest is made of its kids'; under the row's own conditions (the listed package variables as the program lays them). Part 1 of 6: the contracts of the functions that it reaches, and plain lemmas. -/
import Derived.WalkKit
import Derived.Lib.Hide
import Derived.Below
import Derived.Laws.AppendOwn
import Derived.Laws.OwnMore
import Derived.Deep.Draws
import Derived.Test.YtafkenbfgmlkkaaGreatDoorProg
import Derived.Outline
import Derived.Laws.StructEq
import Derived.BigQuiet
import Derived.RowKit3
import Derived.Deep.QuietTactic
import Derived.Deep.LoopGhost
import Derived.Test.YtafkenbfgmlkkaaGreatDoorShelf
import Derived.Lib.QuoteBits
import Derived.Maps.AppendAt
import Derived.OwnWalk
import Derived.Deep.AppendLies
import Derived.Deep.DeepCutAuto
import Derived.Deep.CutBlock
import Derived.Deep.RegionHeld3
import Derived.Laws.Rows
import Derived.Lib.AppendStr
import Derived.Laws.IdiomCopy
set_option linter.unusedVariables false
set_option linter.unusedSimpArgs false
namespace Go.Proofs.T
open Go.RowKit

/-! ### Values read as trees: what a value's cells say; ok: which blocks the reading touches -/
structure Ly (α : Type) where
  sz : Nat
  K : World → (Nat → Prop) → α → List Value → Prop
  len : ∀ {w ok x cs}, K w ok x cs → cs.length = sz
  one : ∀ {w ok x cs}, K w ok x cs → ∀ u ∈ cs, u.oneCell' = true
  move : ∀ {w w' : World} {ok x cs}, K w ok x cs → (∀ b, ok b → b < w.heap.size → w'.heap[b]? = w.heap[b]?) → K w' ok x cs
  mono : ∀ {w : World} {ok ok' : Nat → Prop} {x cs}, K w ok x cs → (∀ b, ok b → b < w.heap.size → ok' b) → K w ok' x cs

/-- The row at A holds xs. -/
structure Rd {α : Type} (L : Ly α) (w : World) (ok : Nat → Prop) (A : Option Addr) (n : Nat) (xs : List α) : Prop where
  len : xs.length = n
  max : n ≤ 9223372036854775807
  row : 0 < n → ∃ b o, A = some ⟨b, o, none⟩ ∧ ok b ∧ ∀ i x, xs[i]? = some x → ∃ cs, L.K w ok x cs ∧ ∀ j u, cs[j]? = some u → w.cell? ⟨b, o + (i * L.sz + j), none⟩ = some u

theorem Rd.nil {α : Type} (L : Ly α) (w : World) (ok : Nat → Prop) (A : Option Addr) : Rd L w ok A 0 [] := ⟨rfl, by omega, fun h => absurd h (by omega)⟩

theorem cell_lt {w : World} {b o : Nat} {u : Value} (h : w.cell? ⟨b, o, none⟩ = some u) : b < w.heap.size := World.block_lt_of_cell? w ⟨b, o, none⟩ h

theorem Rd.move {α : Type} {L : Ly α} {w w' : World} {ok : Nat → Prop} {A : Option Addr} {n : Nat} {xs : List α} (hz : 0 < L.sz) (h : Rd L w ok A n xs) (hm : ∀ b, ok b → b < w.heap.size → w'.heap[b]? = w.heap[b]?) : Rd L w' ok A n xs := by
  refine ⟨h.len, h.max, fun hn => ?_⟩
  obtain ⟨b, o, e, hb, hr⟩ := h.row hn
  refine ⟨b, o, e, hb, fun i x hx => ?_⟩
  obtain ⟨cs, hk, hc⟩ := hr i x hx
  refine ⟨cs, L.move hk hm, fun j u hu => ?_⟩
  have h0 := hc j u hu
  have hlt := cell_lt h0
  rw [← h0]
  exact World.cell?_of_block (w := w) (hm b hb hlt)

theorem Rd.mono {α : Type} {L : Ly α} {w : World} {ok ok' : Nat → Prop} {A : Option Addr} {n : Nat} {xs : List α} (hz : 0 < L.sz) (h : Rd L w ok A n xs) (hm : ∀ b, ok b → b < w.heap.size → ok' b) : Rd L w ok' A n xs := by
  refine ⟨h.len, h.max, fun hn => ?_⟩
  obtain ⟨b, o, e, hb, hr⟩ := h.row hn
  have hb' : b < w.heap.size := by
    obtain ⟨x, hx⟩ : ∃ x, xs[0]? = some x := ⟨xs[0]'(by have := h.len; omega), by simp⟩
    obtain ⟨cs, hk, hc⟩ := hr 0 x hx
    have hl := L.len hk
    exact cell_lt (hc 0 (cs[0]'(by omega)) (by simp))
  refine ⟨b, o, e, hm b hb hb', fun i x hx => ?_⟩
  obtain ⟨cs, hk, hc⟩ := hr i x hx
  exact ⟨cs, L.mono hk hm, hc⟩

/-- What was there when the call began. -/
theorem Rd.below {α : Type} {L : Ly α} {w w' : World} {ok : Nat → Prop} {A : Option Addr} {n : Nat} {xs : List α} (hz : 0 < L.sz) (h : Rd L w ok A n xs) (hb : Below w.heap.size w w') : Rd L w' ok A n xs :=
  h.move hz fun b _ hlt => hb.block b hlt

/-- Scalars. -/
def Ly.one1 {α : Type} (enc : α → Value) (h1 : ∀ x, (enc x).oneCell' = true) : Ly α := {
  sz := 1
  K := fun _ _ x cs => cs = [enc x]
  len := fun h => by rw [h]; rfl
  one := fun h u hu => by rw [h] at hu; rw [List.mem_singleton.1 hu]; exact h1 _
  move := fun h _ => h
  mono := fun h _ => h }
def Ly.i64 : Ly Int := Ly.one1 (Value.int .i64) fun _ => rfl
def Ly.u8 : Ly Int := Ly.one1 (Value.int .u8) fun _ => rfl
def Ly.str : Ly ByteArray := Ly.one1 Value.string fun _ => rfl

/-- A slice in a cell. -/
def Ly.sl {α : Type} (L : Ly α) (hz : 0 < L.sz) : Ly (List α) := {
  sz := 1
  K := fun w ok xs cs => ∃ A c, cs = [.slice A xs.length c] ∧ xs.length ≤ c ∧ Rd L w ok A xs.length xs
  len := fun ⟨_, _, h, _⟩ => by rw [h]; rfl
  one := fun ⟨_, _, h, _⟩ u hu => by rw [h] at hu; rw [List.mem_singleton.1 hu]; rfl
  move := fun ⟨A, c, h, hc, hr⟩ hm => ⟨A, c, h, hc, hr.move hz hm⟩
  mono := fun ⟨A, c, h, hc, hr⟩ hm => ⟨A, c, h, hc, hr.mono hz hm⟩ }

/-- Two, one behind the other. -/
def Ly.pair {α β : Type} (a : Ly α) (b : Ly β) : Ly (α × β) := {
  sz := a.sz + b.sz
  K := fun w ok x cs => ∃ c d, cs = c ++ d ∧ a.K w ok x.1 c ∧ b.K w ok x.2 d
  len := fun ⟨_, _, h, h1, h2⟩ => by rw [h, List.length_append, a.len h1, b.len h2]
  one := fun ⟨_, _, h, h1, h2⟩ u hu => by rw [h] at hu; exact (List.mem_append.1 hu).elim (a.one h1 u) (b.one h2 u)
  move := fun ⟨c, d, h, h1, h2⟩ hm => ⟨c, d, h, a.move h1 hm, b.move h2 hm⟩
  mono := fun ⟨c, d, h, h1, h2⟩ hm => ⟨c, d, h, a.mono h1 hm, b.mono h2 hm⟩ }
def Ly.iso {α β : Type} (a : Ly α) (f : β → α) : Ly β := {
  sz := a.sz
  K := fun w ok x cs => a.K w ok (f x) cs
  len := a.len
  one := a.one
  move := a.move
  mono := a.mono }

structure Dec where
  man : Int
  exp : Int
instance : DecidableEq Dec := fun a b => decidable_of_iff (a.man = b.man ∧ a.exp = b.exp) (by cases a; cases b; simp)
structure Node where
  kind : Int
  shape : List Int
  ints : List Int
  decs : List Dec
instance : DecidableEq Node := fun a b => decidable_of_iff (a.kind = b.kind ∧ a.shape = b.shape ∧ a.ints = b.ints ∧ a.decs = b.decs) (by cases a; cases b; simp)
def lDec : Ly Dec := (Ly.i64.pair Ly.i64).iso fun d => (d.man, d.exp)
def lInts : Ly (List Int) := Ly.i64.sl (by decide)
def lDecs : Ly (List Dec) := lDec.sl (by decide)
def lNode : Ly Node := (Ly.i64.pair (lInts.pair (lInts.pair lDecs))).iso fun n => (n.kind, n.shape, n.ints, n.decs)


/-! ### The world behind: what was there when the call began is as it was -/
section
variable {w W X : World}
theorem bl_alloc (h : Below w.heap.size w W) (o : Obj) : Below w.heap.size w (W.alloc o) := h.alloc h.size o
theorem bl_drew (h : Below w.heap.size w W) : Below w.heap.size w W.drew := ⟨h.os, h.tape, h.output, h.size, h.block⟩
theorem bl_drewN (h : Below w.heap.size w W) (n : Nat) : Below w.heap.size w (W.drewN n) := ⟨h.os, h.tape, h.output, h.size, h.block⟩
theorem bl_trans (hb : Below X.heap.size X W) (h : Below w.heap.size w X) : Below w.heap.size w W := h.trans (hb.mono h.size)
theorem bl_set (h : Below w.heap.size w W) {p : Addr} (hp : w.heap.size ≤ p.block) (u : Value) : Below w.heap.size w (W.setCell p u) := h.setCell hp u
theorem bl_grown {row : Option Nat} (h : Below w.heap.size w W) (hg : W.grownBy X row) (hr : ∀ k, row = some k → w.heap.size ≤ k) : Below w.heap.size w X := h.grown hg h.size hr
theorem bcell (hb : Below W.heap.size W X) : (∀ b o, b < W.heap.size → X.cell? ⟨b, o, none⟩ = W.cell? ⟨b, o, none⟩) ∧ (∀ b o, b < W.heap.size → X.frozen? ⟨b, o, none⟩ = W.frozen? ⟨b, o, none⟩) :=
  ⟨fun b o h => hb.cell (p := ⟨b, o, none⟩) h, fun b o h => hb.frozen (p := ⟨b, o, none⟩) h⟩
end
/-- A number's bounds. -/
def I64 (x : Int) : Prop := -9223372036854775808 ≤ x ∧ x ≤ 9223372036854775807
theorem wrap64_bd (x : Int) : -9223372036854775808 ≤ wrap64 x ∧ wrap64 x ≤ 9223372036854775807 := by unfold wrap64; omega

end Go.Proofs.T
namespace Go.Proofs.T
open Go.RowKit
section
variable {P : Program} {d : Nat} {xs ys : Array Value} {f : Field} {fs : List Field} {a b : Value} {r s : Bool} {w : World}
theorem eqf_last (hn : (f.name == "_") = false) (ha : (part f.type xs f.offset).run P w = .ok a w) (hb : (part f.type ys f.offset).run P w = .ok b w) (he : (Op.equalIn d f.type a b).run P w = .ok r w) : (Op.eqFields d xs ys [f]).run P w = .ok r w := by
  have hn' : f.name ≠ "_" := by simpa using hn
  simp only [Op.eqFields, if_pos hn', Sem.run_bind, ha, hb, he, Result.andThen_ok]
  cases r <;> simp
theorem eqf_cons (hn : (f.name == "_") = false) (ha : (part f.type xs f.offset).run P w = .ok a w) (hb : (part f.type ys f.offset).run P w = .ok b w) (he : (Op.equalIn d f.type a b).run P w = .ok r w) (hr : (Op.eqFields d xs ys fs).run P w = .ok s w) : (Op.eqFields d xs ys (f :: fs)).run P w = .ok (r && s) w := by
  have hn' : f.name ≠ "_" := by simpa using hn
  rw [Op.eqFields]
  simp only [if_pos hn', Sem.run_bind, ha, hb, he, Result.andThen_ok]
  cases r
  · simp
  · simpa using hr
theorem eqA_of {t : TypeId} {fs : Array Field} (hu : P.underlying t = some (.struct fs)) (hp : P.stoodInHeld t = false) (h : (Op.eqFields d xs ys fs.toList).run P w = .ok r w) : (Op.equalIn (d + 1) t (.agg xs) (.agg ys)).run P w = .ok r w := by
  have hf : P.fieldsOf t = fs := by simp [Program.fieldsOf, hu]
  rw [run_equalIn_struct (P := P) w d t xs ys (by rw [hf]; exact hu) hp, hf]
  exact h
end

theorem td10 (m : Int) : m = 10 * m.tdiv 10 + m.tmod 10 ∧ (0 ≤ m → 0 ≤ m.tmod 10 ∧ m.tmod 10 < 10) ∧ (m ≤ 0 → m.tmod 10 ≤ 0 ∧ -10 < m.tmod 10) := by
  have h := Int.mul_tdiv_add_tmod m 10
  refine ⟨by omega, fun h0 => ⟨Int.tmod_nonneg 10 h0, Int.tmod_lt_of_pos m (by omega)⟩, fun h0 => ?_⟩
  have hn := Int.neg_tmod m 10
  have h1 := Int.tmod_nonneg 10 (show 0 ≤ -m by omega)
  have h2 := Int.tmod_lt_of_pos (-m) (show (0 : Int) < 10 by omega)
  omega

def stripN : Nat → Int → Int → Int × Int
  | 0, m, e => (m, e)
  | n + 1, m, e => if m.tmod 10 = 0 then (if e ≤ 32767 then stripN n (m.tdiv 10) (e + 1) else (m, e)) else (m, e)
def finD (p : Int × Int) : Int × Int × Bool :=
  if p.2 < -32768 then (0, 0, false) else if 32767 < p.2 then (0, 0, false) else (p.1, p.2, true)
def normD (m e : Int) : Int × Int × Bool := if m = 0 then (0, 0, true) else finD (stripN 20 m e)
def decV (d : Int × Int × Bool) : Value := .tuple #[.agg #[.int .i64 d.1, .int .i64 d.2.1], .bool d.2.2]

theorem strip_stop {k : Nat} {m e : Int} (hk : m.natAbs < 10 ^ k) (h0 : m ≠ 0) (h : ¬ m.tmod 10 = 0 ∨ ¬ e ≤ 32767) : stripN k m e = (m, e) := by
  cases k with
  | zero => omega
  | succ k => unfold stripN; rcases h with h | h <;> simp [h]
theorem strip_go {k : Nat} {m e : Int} (hk : m.natAbs < 10 ^ k) (h0 : m ≠ 0) (h1 : m.tmod 10 = 0) (h2 : e ≤ 32767) :
    ∃ k', k = k' + 1 ∧ stripN k m e = stripN k' (m.tdiv 10) (e + 1) ∧ (m.tdiv 10).natAbs < 10 ^ k' ∧ m.tdiv 10 ≠ 0 := by
  have h := (td10 m).1
  cases k with
  | zero => omega
  | succ k => exact ⟨k, rfl, by rw [stripN, if_pos h1, if_pos h2], by rw [Nat.pow_succ] at hk; omega, by omega⟩
theorem fin_of {m e : Int} (r : Int × Int × Bool) (H : finD (stripN 20 m e) = r) (h0 : ¬ m = 0) : normD m e = r := by rw [normD, if_neg h0, H]

set_option maxHeartbeats 400000 in
theorem norm_nz (m e : Int) (w : World) (h0 : ¬ m = 0) (hm1 : -9223372036854775808 ≤ m) (hm2 : m ≤ 9223372036854775807) (he1 : -9223372036854775808 ≤ e) (he2 : e ≤ 9223372036854775807) :
    Calls Tryz.prog 34 #[.agg #[.int .i64 m, .int .i64 e]] w fun r w' => r = .returned (decV (normD m e)) ∧ Below w.heap.size w w' := by
  have hm : (m == 0) = false := by simpa using h0
  go_enter Tryz.func34, Tryz.ntmps34
  go_wp2
  go_loopg [] 20 (fun k wr => ∃ m' e' : Int, wr = ((w.alloc (.cells #[.int .i64 m', .int .i64 e'] 39)).alloc (.cells #[.int .i64 0, .int .i64 0] 39)) ∧ -9223372036854775808 ≤ m' ∧ m' ≤ 9223372036854775807 ∧ -9223372036854775808 ≤ e' ∧ e' ≤ 9223372036854775807 ∧ Hid (stripN 20 m e = stripN k m' e' ∧ m'.natAbs < 10 ^ k ∧ m' ≠ 0))
  case atStart =>
    exact ⟨m, e, rfl, hm1, hm2, he1, he2, rfl, by omega, h0⟩
  case round =>
    obtain ⟨m', e', rfl, hm1', hm2', he1', he2', H⟩ := hrel
    have ht := td10 m'
    by_cases c : m'.tmod 10 = 0 ∧ e' ≤ 32767
    · obtain ⟨c1, c2⟩ := c
      obtain ⟨k', rfl, hs⟩ := strip_go H.out.2.1 H.out.2.2 c1 c2
      have hq1 : -9223372036854775808 ≤ m'.tdiv 10 := by omega
      have hq2 : m'.tdiv 10 ≤ 9223372036854775807 := by omega
      have H2 := Lib.hid hs; clear hs ht
      go_wp2
      go_roundg k'
      case measure => omega
      case rel => exact ⟨m'.tdiv 10, e' + 1, rfl, hq1, hq2, by omega, by omega, H.out.1.trans H2.out.1, H2.out.2⟩
    · have hs := strip_stop (e := e') H.out.2.1 H.out.2.2 (by omega)
      have HZ := Lib.hid (fin_of (m := m) (e := e) (finD (m', e')) (by rw [H.out.1, hs]) h0)
      clear hs ht
      have fin : ∀ (z0 z1 : Int) (b : Bool), finD (m', e') = (z0, z1, b) → Ending.returned (.tuple #[.agg #[.int .i64 z0, .int .i64 z1], .bool b]) = Ending.returned (decV (normD m e)) := fun z0 z1 b hz => by rw [HZ.out, hz]; rfl
      have HF := Lib.hid fin; clear fin
      rcases (show (¬ m'.tmod 10 = 0 ∧ e' < -32768) ∨ 32767 < e' ∨ (¬ m'.tmod 10 = 0 ∧ -32768 ≤ e' ∧ e' ≤ 32767) by omega) with ⟨c1, c2⟩ | c2 | ⟨c1, c2, c3⟩
      · clear c
        have hz := Lib.hid (HF.out 0 0 false (by simp only [finD]; rw [if_pos c2]))
        go_wp2
        all_goals exact bodyPost_ret (v := .tuple #[.agg #[.int .i64 0, .int .i64 0], .bool false]) (by simp [results, Tryz.results34, go_sem]) rfl ⟨hz.out, ((Below.refl _ _).alloc (Nat.le_refl _) _).alloc (by simp) _⟩
      · clear c
        have hz := Lib.hid (HF.out 0 0 false (by simp only [finD]; rw [if_neg (by omega), if_pos c2]))
        go_wp2
        all_goals exact bodyPost_ret (v := .tuple #[.agg #[.int .i64 0, .int .i64 0], .bool false]) (by simp [results, Tryz.results34, go_sem]) rfl ⟨hz.out, ((Below.refl _ _).alloc (Nat.le_refl _) _).alloc (by simp) _⟩
      · clear c
        have hz := Lib.hid (HF.out m' e' true (by simp only [finD]; rw [if_neg (by omega), if_neg (by omega)]))
        go_wp2
        all_goals exact bodyPost_ret (v := .tuple #[.agg #[.int .i64 m', .int .i64 e'], .bool true]) (by simp [results, Tryz.results34, go_sem]) rfl ⟨hz.out, ((Below.refl _ _).alloc (Nat.le_refl _) _).alloc (by simp) _⟩

set_option maxHeartbeats 400000 in
theorem norm_z (e : Int) (w : World) :
    Calls Tryz.prog 34 #[.agg #[.int .i64 0, .int .i64 e]] w fun r w' => r = .returned (decV (0, 0, true)) ∧ Below w.heap.size w w' := by
  go_enter Tryz.func34, Tryz.ntmps34
  go_wp2
  exact bodyPost_ret (v := .tuple #[.agg #[.int .i64 0, .int .i64 0], .bool true]) (by simp [results, Tryz.results34, go_sem]) rfl ⟨rfl, ((Below.refl _ _).alloc (Nat.le_refl _) _).alloc (by simp) _⟩

theorem norm_any (m e a b : Int) (c : Bool) (h : normD m e = (a, b, c)) (hm : I64 m) (he : I64 e) (w : World) :
    Calls Tryz.prog 34 #[.agg #[.int .i64 m, .int .i64 e]] w fun r w' => r = .returned (.tuple #[.agg #[.int .i64 a, .int .i64 b], .bool c]) ∧ Below w.heap.size w w' := by
  by_cases h0 : m = 0
  · subst h0
    rw [normD, if_pos rfl] at h
    injection h with h1 h2
    injection h2 with h2 h3
    subst h1; subst h2; subst h3
    exact norm_z e w
  · have := norm_nz m e w h0 hm.1 hm.2 he.1 he.2
    rw [h] at this
    exact this
theorem strip_bd : ∀ (n : Nat) (m e : Int), I64 m → (I64 (stripN n m e).1 ∧ (stripN n m e).2 ≤ max e 32768 ∧ e ≤ (stripN n m e).2)
  | 0, m, e, h => ⟨h, by simp only [stripN]; omega, by simp [stripN]⟩
  | n + 1, m, e, h => by
    unfold stripN
    split
    · split
      · have h1 := td10 m
        have h2 := strip_bd n (m.tdiv 10) (e + 1) (by unfold I64 at *; omega)
        exact ⟨h2.1, by omega, by omega⟩
      · exact ⟨h, by simp only; omega, by simp⟩
    · exact ⟨h, by simp only; omega, by simp⟩
theorem norm_bd (m e : Int) (h : I64 m) : I64 (normD m e).1 ∧ -32768 ≤ (normD m e).2.1 ∧ (normD m e).2.1 ≤ 32767 := by
  have h1 := strip_bd 20 m e h
  unfold normD finD
  split
  · unfold I64; simp
  · split
    · unfold I64; simp
    · split
      · unfold I64; simp
      · exact ⟨h1.1, by simp only; omega, by simp only; omega⟩
theorem norm_ibd {m e a b : Int} {c : Bool} (h : normD m e = (a, b, c)) (hm : I64 m) : I64 a ∧ -32768 ≤ b ∧ b ≤ 32767 := by
  have := norm_bd m e hm
  rw [h] at this
  exact this

theorem eqA39 (d : Nat) (w : World) (x0 y0 : Int) (x1 y1 : Int) :
    (Op.equalIn (d + 2) 39 (.agg #[.int .i64 x0, .int .i64 x1]) (.agg #[.int .i64 y0, .int .i64 y1])).run Tryz.prog w = .ok (x0 == y0 && (x1 == y1)) w := by
  refine eqA_of Tryz.underlying39 (by kernel_rfl) ?_
  refine eqf_cons (by rfl) (by go_simp; rfl) (by go_simp; rfl) (by go_simp) ?_
  exact eqf_last (by rfl) (by go_simp; rfl) (by go_simp; rfl) (by go_simp)

/-- Right tells whether a number has its right form. -/
def rightD (m e : Int) : Bool := (normD m e).2.2 && ((normD m e).1 == m && (normD m e).2.1 == e)
attribute [local go_sem high] eqA39
set_option maxHeartbeats 400000 in
theorem right_any (m e : Int) (hm : I64 m) (he : I64 e) (w : World) :
    Calls Tryz.prog 17 #[.agg #[.int .i64 m, .int .i64 e]] w fun r w' => r = .returned (.bool (rightD m e)) ∧ Below w.heap.size w w' := by
  unfold rightD
  rcases hN : normD m e with ⟨a, b, c⟩
  have HN := Lib.hid hN; clear hN
  have hu39 := Tryz.underlying39
  have hm' := Lib.hid hm; have he' := Lib.hid he
  clear hm he
  cases c with
  | true =>
    go_enter Tryz.func17, Tryz.ntmps17
    go_wp2_with (go_at_call 34; refine (norm_any m e a b true HN.out hm'.out he'.out _).mono ?_; rintro r w1 ⟨rfl, hb⟩; obtain ⟨hc, hf⟩ := bcell hb; have hz : w.heap.size < w1.heap.size := by have := hb.size; simp at this; omega)
    go_ret
    exact ⟨rfl, bl_alloc (bl_trans hb (bl_alloc (Below.refl _ _) _)) _⟩
  | false =>
    go_enter Tryz.func17, Tryz.ntmps17
    go_wp2_with (go_at_call 34; refine (norm_any m e a b false HN.out hm'.out he'.out _).mono ?_; rintro r w1 ⟨rfl, hb⟩)
    go_ret
    exact ⟨rfl, bl_alloc (bl_trans hb (bl_alloc (Below.refl _ _) _)) _⟩
end Go.Proofs.T
namespace Go.Proofs.T
open Go.RowKit

set_option maxHeartbeats 400000 in
theorem of_any (n : Int) (hn : I64 n) (w : World) :
    Calls Tryz.prog 15 #[.int .i64 n] w fun r w' => r = .returned (.agg #[.int .i64 (normD n 0).1, .int .i64 (normD n 0).2.1]) ∧ Below w.heap.size w w' := by
  rcases hN : normD n 0 with ⟨a, b, c⟩
  have HN := Lib.hid hN; clear hN
  have hm' := Lib.hid hn
  clear hn
  go_enter Tryz.func15, Tryz.ntmps15
  go_wp2_with (go_at_call 34; refine (norm_any n 0 a b c HN.out hm'.out (by unfold I64; omega) _).mono ?_; rintro r w1 ⟨rfl, hb⟩; obtain ⟨hc, hf⟩ := bcell hb; have hz : w.heap.size < w1.heap.size := by have := hb.size; simp at this; omega)
  exact bodyPost_ret (v := .agg #[.int .i64 a, .int .i64 b]) (by simp [results, Tryz.results15, go_sem, hc, hz]) rfl ⟨rfl, bl_alloc (bl_set (bl_set (bl_trans hb (bl_alloc (Below.refl _ _) _)) (by simp) _) (by simp) _) _⟩

def wholeL : Nat → Int → Int × Bool
  | 0, n => (n, true)
  | k + 1, n => if (wrap64 (n * 10)).tdiv 10 = n then wholeL k (wrap64 (n * 10)) else (0, false)
/-- The whole number that a number is. -/
def wholeD (m e : Int) : Int × Bool := if rightD m e && (decide (0 ≤ e) && decide (e ≤ 18)) then wholeL e.toNat m else (0, false)

set_option maxHeartbeats 400000 in
theorem whole_no (m e : Int) (h : (rightD m e && (decide (0 ≤ e) && decide (e ≤ 18))) = false) (hm : I64 m) (he : I64 e) (w : World) :
    Calls Tryz.prog 19 #[.agg #[.int .i64 m, .int .i64 e]] w fun r w' => r = .returned (.tuple #[.int .i64 0, .bool false]) ∧ Below w.heap.size w w' := by
  have hr := right_any m e hm he
  generalize rightD m e = q at h hr
  cases q with
  | false =>
    have HR := Lib.hid hr; clear hr h
    go_enter Tryz.func19, Tryz.ntmps19
    go_wp2_with (go_at_call 17; refine (HR.out _).mono ?_; rintro r w1 ⟨rfl, hb⟩; obtain ⟨hc, hf⟩ := bcell hb)
    go_ret2
    exact ⟨rfl, bl_trans hb (bl_alloc (Below.refl _ _) _)⟩
  | true =>
    have HR := Lib.hid hr; clear hr
    have h2 : e < 0 ∨ 18 < e := by simp at h; omega
    clear h
    rcases h2 with h2 | h2
    · go_enter Tryz.func19, Tryz.ntmps19
      go_wp2_with (go_at_call 17; refine (HR.out _).mono ?_; rintro r w1 ⟨rfl, hb⟩; obtain ⟨hc, hf⟩ := bcell hb)
      go_ret2
      exact ⟨rfl, bl_trans hb (bl_alloc (Below.refl _ _) _)⟩
    · go_enter Tryz.func19, Tryz.ntmps19
      go_wp2_with (go_at_call 17; refine (HR.out _).mono ?_; rintro r w1 ⟨rfl, hb⟩; obtain ⟨hc, hf⟩ := bcell hb)
      go_ret2
      exact ⟨rfl, bl_trans hb (bl_alloc (Below.refl _ _) _)⟩

set_option maxHeartbeats 400000 in
theorem whole_yes (m e : Int) (h : rightD m e = true) (h0 : 0 ≤ e) (h1 : e ≤ 18) (hm : I64 m) (he : I64 e) (w : World) :
    Calls Tryz.prog 19 #[.agg #[.int .i64 m, .int .i64 e]] w fun r w' => r = .returned (.tuple #[.int .i64 (wholeL e.toNat m).1, .bool (wholeL e.toNat m).2]) ∧ Below w.heap.size w w' := by
  have hr := right_any m e hm he
  rw [h] at hr; clear h
  have HR := Lib.hid hr; clear hr
  obtain ⟨n, rfl⟩ := Int.eq_ofNat_of_zero_le h0
  have HM := hm; unfold I64 at HM
  go_enter Tryz.func19, Tryz.ntmps19
  go_wp2_with (go_at_call 17; refine (HR.out _).mono ?_; rintro r w1 ⟨rfl, hb⟩; obtain ⟨hc, hf⟩ := bcell hb)
  go_loopg [4, 22] n (fun k v i wr => w1 = wr ∧ ∃ (q : Int) (j : Nat), j ≤ n ∧ k = n - j ∧ v = .int .i64 q ∧ i = .int .i64 j ∧ -9223372036854775808 ≤ q ∧ q ≤ 9223372036854775807 ∧ Hid (wholeL (n - j) q = wholeL n m))
  case atStart => exact ⟨rfl, m, 0, by omega, by omega, rfl, rfl, hm.1, hm.2, rfl⟩
  case round =>
    obtain ⟨rfl, q, j, hj, rfl, rfl, rfl, hq1, hq2, H⟩ := hrel
    have hw := wrap64_bd (q * 10)
    by_cases hlt : j < n
    · obtain ⟨k, hk⟩ : ∃ k, n - j = k + 1 := ⟨n - j - 1, by omega⟩
      by_cases ht : (wrap64 (q * 10)).tdiv 10 = q
      · have H2 : Hid (wholeL (n - (j + 1)) (wrap64 (q * 10)) = wholeL n m) := by
          rw [← H.out, hk, show n - (j + 1) = k by omega]
          rw [wholeL, if_pos ht]; rfl
        clear hk
        have ht' : ((wrap64 (q * 10)).tdiv 10 != q) = false := by simp [ht]
        clear ht
        go_wp2
        go_roundg (n - (j + 1))
        case measure => omega
        case rel => exact ⟨rfl, _, j + 1, by omega, rfl, rfl, by go_num, hw.1, hw.2, H2⟩
      · have H2 : Hid (wholeL n m = (0, false)) := by
          rw [← H.out, hk]
          rw [wholeL, if_neg ht]; rfl
        clear hk
        have ht' : ((wrap64 (q * 10)).tdiv 10 != q) = true := by simpa using ht
        clear ht
        go_wp2
        go_ret2
        exact ⟨by rw [show ((n : Int).toNat) = n from rfl, H2.out]; rfl, bl_trans hb (bl_alloc (Below.refl _ _) _)⟩
    · have hjn : j = n := by omega
      have H2 : Hid (wholeL n m = (q, true)) := by rw [← H.out, hjn, Nat.sub_self]; rfl
      clear hjn
      go_wp2
      go_ret2
      exact ⟨by rw [show ((n : Int).toNat) = n from rfl, H2.out]; rfl, bl_trans hb (bl_alloc (Below.refl _ _) _)⟩

theorem whole_any (m e : Int) (hm : I64 m) (he : I64 e) (w : World) :
    Calls Tryz.prog 19 #[.agg #[.int .i64 m, .int .i64 e]] w fun r w' => r = .returned (.tuple #[.int .i64 (wholeD m e).1, .bool (wholeD m e).2]) ∧ Below w.heap.size w w' := by
  unfold wholeD
  by_cases h : (rightD m e && (decide (0 ≤ e) && decide (e ≤ 18))) = true
  · rw [if_pos h]
    simp only [Bool.and_eq_true, decide_eq_true_eq] at h
    exact whole_yes m e h.1 h.2.1 h.2.2 hm he w
  · rw [if_neg h]
    exact whole_no m e (by simpa using h) hm he w
end Go.Proofs.T
namespace Go.Proofs.T
open Go.RowKit

/-- What a predicate that is handed over gives. -/
def Pays {α : Type} (g : Nat) (cap : Array Value) (enc : α → Value) (p : α → Bool) (xs : List α) (w : World) : Prop :=
  ∀ W x, x ∈ xs → Below w.heap.size w W → Calls Tryz.prog g (#[enc x] ++ cap) W fun e w' => e = .returned (.bool (p x)) ∧ Below W.heap.size W w'

theorem Rd.at1 {α : Type} {enc : α → Value} {h1 : ∀ x, (enc x).oneCell' = true} {w : World} {ok : Nat → Prop} {b o n : Nat} {xs : List α} (h : Rd (Ly.one1 enc h1) w ok (some ⟨b, o, none⟩) n xs) (k : Nat) (hk : k < xs.length) : w.cell? ⟨b, o + k, none⟩ = some (enc xs[k]) := by
  have hl := h.len
  obtain ⟨b', o', e, _, hr⟩ := h.row (by omega)
  injection e with e; injection e with e1 e2; subst e1; subst e2
  obtain ⟨cs, rfl, hc⟩ := hr k xs[k] (by simp)
  have := hc 0 _ rfl
  simpa [Ly.one1] using this

theorem any_go {α : Type} (p : α → Bool) (xs : List α) (k : Nat) (hk : k < xs.length) (h0 : ∀ j (hj : j < xs.length), j < k → p xs[j] = false) (h : p xs[k] = true) : xs.any p = true :=
  List.any_eq_true.2 ⟨xs[k], List.getElem_mem hk, h⟩
theorem any_no {α : Type} (p : α → Bool) (xs : List α) (h0 : ∀ j (hj : j < xs.length), p xs[j] = false) : xs.any p = false := by
  rw [List.any_eq_false]
  intro x hx
  obtain ⟨j, hj, rfl⟩ := List.getElem_of_mem hx
  simp [h0 j hj]

set_option maxHeartbeats 800000 in
theorem wrongsI_some (b o c g : Nat) (cap : Array Value) (p : Int → Bool) (xs : List Int) (ok : Nat → Prop) (w : World) (eg : ∀ args w, (callFunc g args).run Tryz.prog w = .ok (.enter g args) w)
    (h : Rd Ly.i64 w ok (some ⟨b, o, none⟩) xs.length xs) (hp : Pays g cap (Value.int .i64) p xs w) :
    Calls Tryz.prog 87 #[.slice (some ⟨b, o, none⟩) xs.length c, .func (.func g) #[] cap] w fun e w' => e = .returned (.bool (xs.any fun x => !p x)) ∧ Below w.heap.size w w' := by
  have hm := h.max
  have HP := Lib.hid hp; clear hp
  have HR := Lib.hid h; clear h
  go_enter Tryz.func87, Tryz.ntmps87
  go_wp2
  go_loopg [6, 9] xs.length (fun gg _ i wr => ∃ k : Nat, k ≤ xs.length ∧ gg = xs.length - k ∧ i = .int .i64 k ∧ Below w.heap.size w wr ∧ Hid (∀ j (hj : j < xs.length), j < k → p xs[j] = true))
  case atStart => exact ⟨0, by omega, by omega, rfl, Below.refl _ _, fun j _ h => absurd h (by omega)⟩
  case round =>
    obtain ⟨k, hk, rfl, rfl, hb, H⟩ := hrel
    by_cases hlt : k < xs.length
    · have hcell := (HR.out.below (by decide) hb).at1 k hlt
      have hcall := HP.out wr xs[k] (List.getElem_mem hlt) hb
      have HM : Hid (xs[k] ∈ xs) := List.getElem_mem hlt
      generalize hx : xs[k] = x at hcell hcall HM
      have HX := Lib.hid hx; clear hx
      generalize hq : p x = q at hcall
      have HQ := Lib.hid hq; clear hq
      cases q with
      | true =>
        have HC := Lib.hid hcall; clear hcall
        go_wp2_with (go_at_fn g; refine HC.out.mono ?_; rintro e w' ⟨rfl, hb1⟩)
        go_roundg (xs.length - (k + 1))
        case measure => omega
        case rel => exact ⟨k + 1, by omega, rfl, by go_num, bl_trans hb1 hb, fun j hj hjk => by
          rcases Nat.lt_or_eq_of_le (Nat.le_of_lt_succ hjk) with h | h
          · exact H.out j hj h
          · subst h; rw [HX.out]; exact HQ.out⟩
      | false =>
        have HC := Lib.hid hcall; clear hcall
        go_wp2_with (go_at_fn g; refine HC.out.mono ?_; rintro e w' ⟨rfl, hb1⟩)
        go_ret
        refine ⟨?_, bl_trans hb1 hb⟩
        rw [List.any_eq_true.2 ⟨x, HM.out, by rw [HQ.out]; rfl⟩]
        rfl
    · have hkn : k = xs.length := by omega
      have HF : Hid ((xs.any fun x => !p x) = false) := any_no _ xs fun j hj => by rw [H.out j hj (by omega)]; rfl
      clear hkn
      go_wp2
      go_ret
      exact ⟨by rw [HF.out]; rfl, hb⟩
end Go.Proofs.T
namespace Go.Proofs.T
open Go.RowKit
theorem Rd.ways {α : Type} {L : Ly α} {w : World} {ok : Nat → Prop} {A : Option Addr} {n : Nat} {xs : List α} (h : Rd L w ok A n xs) : (n = 0 ∧ xs = []) ∨ (0 < n ∧ ∃ b o, A = some ⟨b, o, none⟩) := by
  rcases Nat.eq_zero_or_pos n with h0 | h0
  · exact .inl ⟨h0, List.eq_nil_of_length_eq_zero (by rw [h.len, h0])⟩
  · obtain ⟨b, o, e, _⟩ := h.row h0
    exact .inr ⟨h0, b, o, e⟩
theorem Rd.getI {w : World} {ok : Nat → Prop} {b o n : Nat} {xs : List Int} (h : Rd Ly.i64 w ok (some ⟨b, o, none⟩) n xs) : ∀ j, j < xs.length → w.cell? ⟨b, o + j, none⟩ = some (.int .i64 (xs.getD j 0)) := by
  intro j hj
  rw [h.at1 j hj]
  simp [List.getD_eq_getElem?_getD, hj]
def decW (d : Dec) : Value := .agg #[.int .i64 d.man, .int .i64 d.exp]
theorem Rd.atD {w : World} {ok : Nat → Prop} {b o n : Nat} {xs : List Dec} (h : Rd lDec w ok (some ⟨b, o, none⟩) n xs) (k : Nat) (hk : k < xs.length) :
    w.cell? ⟨b, o + k * 2, none⟩ = some (.int .i64 xs[k].man) ∧ w.cell? ⟨b, o + k * 2 + 1, none⟩ = some (.int .i64 xs[k].exp) := by
  have hl := h.len
  obtain ⟨b', o', e, _, hr⟩ := h.row (by omega)
  injection e with e; injection e with e1 e2; subst e1; subst e2
  obtain ⟨cs, ⟨_, _, rfl, rfl, rfl⟩, hc⟩ := hr k xs[k] (by simp)
  exact ⟨hc 0 _ rfl, hc 1 _ rfl⟩

set_option maxHeartbeats 800000 in
theorem wrongsD_some (b o c g : Nat) (cap : Array Value) (p : Dec → Bool) (xs : List Dec) (ok : Nat → Prop) (w : World) (eg : ∀ args w, (callFunc g args).run Tryz.prog w = .ok (.enter g args) w)
    (h : Rd lDec w ok (some ⟨b, o, none⟩) xs.length xs) (hp : Pays g cap decW p xs w) :
    Calls Tryz.prog 88 #[.slice (some ⟨b, o, none⟩) xs.length c, .func (.func g) #[] cap] w fun e w' => e = .returned (.bool (xs.any fun x => !p x)) ∧ Below w.heap.size w w' := by
  have hm := h.max
  have HP := Lib.hid hp; clear hp
  have HR := Lib.hid h; clear h
  go_enter Tryz.func88, Tryz.ntmps88
  go_wp2
  go_loopg [6, 9] xs.length (fun gg _ i wr => ∃ k : Nat, k ≤ xs.length ∧ gg = xs.length - k ∧ i = .int .i64 k ∧ Below w.heap.size w wr ∧ Hid (∀ j (hj : j < xs.length), j < k → p xs[j] = true))
  case atStart => exact ⟨0, by omega, by omega, rfl, Below.refl _ _, fun j _ h => absurd h (by omega)⟩
  case round =>
    obtain ⟨k, hk, rfl, rfl, hb, H⟩ := hrel
    by_cases hlt : k < xs.length
    · have hcell := (HR.out.below (by decide) hb).atD k hlt
      have hcall := fun q => HP.out (wr.alloc q) xs[k] (List.getElem_mem hlt) (bl_alloc hb q)
      have HM : Hid (xs[k] ∈ xs) := List.getElem_mem hlt
      generalize hx : xs[k] = x at hcell hcall HM
      have HX := Lib.hid hx; clear hx
      obtain ⟨hcell1, hcell2⟩ := hcell
      unfold decW at hcall
      generalize hq : p x = q at hcall
      have HQ := Lib.hid hq; clear hq
      cases q with
      | true =>
        have HC := Lib.hid hcall; clear hcall
        go_wp2_with (go_at_fn g; refine (HC.out _).mono ?_; rintro e w' ⟨rfl, hb1⟩)
        go_roundg (xs.length - (k + 1))
        case measure => omega
        case rel => exact ⟨k + 1, by omega, rfl, by go_num, bl_trans hb1 (bl_alloc hb _), fun j hj hjk => by
          rcases Nat.lt_or_eq_of_le (Nat.le_of_lt_succ hjk) with h | h
          · exact H.out j hj h
          · subst h; rw [HX.out]; exact HQ.out⟩
      | false =>
        have HC := Lib.hid hcall; clear hcall
        go_wp2_with (go_at_fn g; refine (HC.out _).mono ?_; rintro e w' ⟨rfl, hb1⟩)
        go_ret
        refine ⟨?_, bl_trans hb1 (bl_alloc hb _)⟩
        rw [List.any_eq_true.2 ⟨x, HM.out, by rw [HQ.out]; rfl⟩]
        rfl
    · have hkn : k = xs.length := by omega
      have HF : Hid ((xs.any fun x => !p x) = false) := any_no _ xs fun j hj => by rw [H.out j hj (by omega)]; rfl
      clear hkn
      go_wp2
      go_ret
      exact ⟨by rw [HF.out]; rfl, hb⟩

set_option maxHeartbeats 400000 in
theorem wrongsI_nil (A : Option Addr) (c : Nat) (fv : Value) (w : World) :
    Calls Tryz.prog 87 #[.slice A 0 c, fv] w fun e w' => e = .returned (.bool false) ∧ Below w.heap.size w w' := by
  go_enter Tryz.func87, Tryz.ntmps87
  go_wp2
  go_loopg [6, 9] 0 (fun _ _ i wr => i = .int .i64 0 ∧ Below w.heap.size w wr)
  case atStart => exact ⟨rfl, Below.refl _ _⟩
  case round =>
    obtain ⟨rfl, hb⟩ := hrel
    go_wp2
    go_ret
    exact ⟨rfl, hb⟩
set_option maxHeartbeats 400000 in
theorem wrongsD_nil (A : Option Addr) (c : Nat) (fv : Value) (w : World) :
    Calls Tryz.prog 88 #[.slice A 0 c, fv] w fun e w' => e = .returned (.bool false) ∧ Below w.heap.size w w' := by
  go_enter Tryz.func88, Tryz.ntmps88
  go_wp2
  go_loopg [6, 9] 0 (fun _ _ i wr => i = .int .i64 0 ∧ Below w.heap.size w wr)
  case atStart => exact ⟨rfl, Below.refl _ _⟩
  case round =>
    obtain ⟨rfl, hb⟩ := hrel
    go_wp2
    go_ret
    exact ⟨rfl, hb⟩
theorem wrongsI_any (A : Option Addr) (c g : Nat) (cap : Array Value) (p : Int → Bool) (xs : List Int) (ok : Nat → Prop) (w : World) (eg : ∀ args w, (callFunc g args).run Tryz.prog w = .ok (.enter g args) w)
    (h : Rd Ly.i64 w ok A xs.length xs) (hp : Pays g cap (Value.int .i64) p xs w) :
    Calls Tryz.prog 87 #[.slice A xs.length c, .func (.func g) #[] cap] w fun e w' => e = .returned (.bool (xs.any fun x => !p x)) ∧ Below w.heap.size w w' := by
  rcases h.ways with ⟨h0, rfl⟩ | ⟨_, b, o, rfl⟩
  · exact wrongsI_nil A c _ w
  · exact wrongsI_some b o c g cap p xs ok w eg h hp
theorem wrongsD_any (A : Option Addr) (c g : Nat) (cap : Array Value) (p : Dec → Bool) (xs : List Dec) (ok : Nat → Prop) (w : World) (eg : ∀ args w, (callFunc g args).run Tryz.prog w = .ok (.enter g args) w)
    (h : Rd lDec w ok A xs.length xs) (hp : Pays g cap decW p xs w) :
    Calls Tryz.prog 88 #[.slice A xs.length c, .func (.func g) #[] cap] w fun e w' => e = .returned (.bool (xs.any fun x => !p x)) ∧ Below w.heap.size w w' := by
  rcases h.ways with ⟨h0, rfl⟩ | ⟨_, b, o, rfl⟩
  · exact wrongsD_nil A c _ w
  · exact wrongsD_some b o c g cap p xs ok w eg h hp

end Go.Proofs.T
namespace Go.Proofs.T
open Go.RowKit
def wrongN (n : Int) : Bool := decide (n < 0) || decide (1048576 < n)
theorem c209 (n : Int) (w : World) : Calls Tryz.prog 62 #[.int .i64 n] w fun e w' => e = .returned (.bool (wrongN n)) ∧ w = w' := by
  unfold wrongN
  by_cases h : n < 0
  · go_enter Tryz.func62, Tryz.ntmps62
    go_wp2
    go_ret
    exact ⟨by simp [h], rfl⟩
  · go_enter Tryz.func62, Tryz.ntmps62
    go_wp2
    go_ret
    exact ⟨by simp; omega, rfl⟩
theorem wrap32_bd (x : Int) : -2147483648 ≤ wrap32 x ∧ wrap32 x ≤ 2147483647 := by unfold wrap32; omega
theorem wrap64_zero (k : Nat) (hk : k < 18446744073709551616) : (IntKind.i64.wrap (k : Int) = 0) ↔ k = 0 := by
  have e : (k : Int) % 2 ^ 64 = k := Int.emod_eq_of_lt (by omega) (by omega)
  simp only [IntKind.wrap, IntKind.bits, IntKind.signed, e]
  have e2 : (2 : Int) ^ 64 = 18446744073709551616 := by decide
  have e3 : (2 : Int) ^ (64 - 1) = 9223372036854775808 := by decide
  rw [e2, e3]
  split
  · rename_i hc
    simp only [Bool.true_and, decide_eq_true_eq] at hc
    omega
  · omega
theorem andNot1 (n : Int) (h : I64 n) : (bits .andNot .i64 n 1 == 0) = (n == 0 || n == 1) := by
  unfold I64 at h
  obtain ⟨u, hu⟩ : ∃ u : Nat, (u : Int) = n % 18446744073709551616 := ⟨(n % 18446744073709551616).toNat, by omega⟩
  have hu' : u < 18446744073709551616 := by omega
  have e1 : BitVec.ofInt 64 n = BitVec.ofInt 64 (u : Int) := by
    apply BitVec.eq_of_toInt_eq
    simp only [BitVec.toInt_ofInt]
    rw [hu]
    exact (Int.emod_bmod n (2 ^ 64)).symm
  have e2 : bits .andNot .i64 n 1 = IntKind.i64.wrap ((u &&& 18446744073709551614 : Nat) : Int) := by
    show IntKind.i64.wrap ((BitVec.ofInt 64 n &&& ~~~BitVec.ofInt 64 ((1 : Nat) : Int)).toNat : Int) = _
    rw [e1, BitVec.toNat_and, BitVec.toNat_not, ofInt_u64 u (by omega), ofInt_u64 1 (by omega)]
  have e3 : u &&& 18446744073709551614 = u / 2 * 2 := by
    rw [nat_hi64_1]
    rw [Nat.mod_eq_of_lt hu']
  rw [e2, e3, Bool.eq_iff_iff]
  simp only [beq_iff_eq, Bool.or_eq_true]
  rw [wrap64_zero _ (by omega)]
  omega
/-- Which whole numbers may be items of a kind. -/
def fitsN (kind n : Int) : Bool :=
  if kind = 1 then n == 0 || n == 1 else if kind = 2 then true else if kind = 3 then decide (0 ≤ n ∧ n ≤ 1114111) && !decide (55296 ≤ n ∧ n ≤ 57343) else false
theorem fits_any (k n : Int) (hn : I64 n) (w : World) : Calls Tryz.prog 86 #[.int .i64 k, .int .i64 n] w fun e w' => e = .returned (.bool (fitsN k n)) ∧ w = w' := by
  unfold fitsN
  replace hn := Lib.hid hn
  by_cases h1 : k = 1
  · subst h1
    rw [if_pos rfl]
    go_enter Tryz.func86, Tryz.ntmps86
    go_wp2
    go_ret
    exact ⟨by rw [← andNot1 n hn.out]; rfl, rfl⟩
  · by_cases h2 : k = 2
    · subst h2
      clear h1
      go_enter Tryz.func86, Tryz.ntmps86
      go_wp2
      go_ret
      exact ⟨rfl, rfl⟩
    · have e1 : (k == 1) = false := by simpa using h1
      have e2 : (k == 2) = false := by simpa using h2
      by_cases h3 : k = 3
      · subst h3
        clear e1 e2 h1 h2
        rw [if_neg (by decide), if_neg (by decide), if_pos rfl]
        clear hn
        by_cases hr : -2147483648 ≤ n ∧ n ≤ 2147483647
        · obtain ⟨hr1, hr2⟩ := hr
          go_enter Tryz.func86, Tryz.ntmps86
          go_wp2_with (go_at_call 30; refine (Tryz.utf8_ValidRune _ _).mono ?_; rintro e w' ⟨rfl, rfl⟩)
          go_ret
          refine ⟨congrArg (fun b => Ending.returned (.bool b)) ?_, rfl⟩
          show Lib.validRune n = _
          rw [Bool.eq_iff_iff]
          simp [Lib.validRune]
          omega
        · have hne : (n == wrap32 n) = false := by
            rw [beq_eq_false_iff_ne]
            have := wrap32_bd n
            omega
          have hz : Hid ((decide (0 ≤ n ∧ n ≤ 1114111) && !decide (55296 ≤ n ∧ n ≤ 57343)) = false) := by
            show _ = false
            simp; omega
          clear hr
          rw [hz.out]
          have hb := wrap32_bd n
          go_enter Tryz.func86, Tryz.ntmps86
          go_wp2_with (go_at_call 30; refine (Tryz.utf8_ValidRune _ _).mono ?_; rintro e w' ⟨rfl, rfl⟩)
          go_ret
          exact ⟨rfl, rfl⟩
      · have e3 : (k == 3) = false := by simpa using h3
        rw [if_neg h1, if_neg h2, if_neg h3]
        clear h1 h2 h3
        go_enter Tryz.func86, Tryz.ntmps86
        go_wp2
        go_ret
        exact ⟨rfl, rfl⟩
end Go.Proofs.T
namespace Go.Proofs.T
open Go.RowKit


set_option maxHeartbeats 800000 in
theorem idxI_some (b o c g : Nat) (cap : Array Value) (p : Int → Bool) (xs : List Int) (ok : Nat → Prop) (w : World) (eg : ∀ args w, (callFunc g args).run Tryz.prog w = .ok (.enter g args) w)
    (h : Rd Ly.i64 w ok (some ⟨b, o, none⟩) xs.length xs) (hp : Pays g cap (Value.int .i64) p xs w) :
    Calls Tryz.prog 65 #[.slice (some ⟨b, o, none⟩) xs.length c, .func (.func g) #[] cap] w fun e w' => (∃ r : Int, e = .returned (.int .i64 r) ∧ xs.any p = decide (0 ≤ r)) ∧ Below w.heap.size w w' := by
  have hm := h.max
  have HP := Lib.hid hp; clear hp
  have HR := Lib.hid h; clear h
  go_enter Tryz.func65, Tryz.ntmps65
  go_wp2
  go_loopg [5, 8] xs.length (fun gg _ i wr => ∃ k : Nat, k ≤ xs.length ∧ gg = xs.length - k ∧ i = .int .i64 k ∧ Below w.heap.size w wr ∧ Hid (∀ j (hj : j < xs.length), j < k → p xs[j] = false))
  case atStart => exact ⟨0, by omega, by omega, rfl, Below.refl _ _, fun j _ h => absurd h (by omega)⟩
  case round =>
    obtain ⟨k, hk, rfl, rfl, hb, H⟩ := hrel
    by_cases hlt : k < xs.length
    · have hcell := (HR.out.below (by decide) hb).at1 k hlt
      have hcall := HP.out wr xs[k] (List.getElem_mem hlt) hb
      have HM : Hid (xs[k] ∈ xs) := List.getElem_mem hlt
      generalize hx : xs[k] = x at hcell hcall HM
      have HX := Lib.hid hx; clear hx
      skip
      skip
      generalize hq : p x = q at hcall
      have HQ := Lib.hid hq; clear hq
      have HC := Lib.hid hcall; clear hcall
      cases q with
      | false =>
        go_wp2_with (go_at_fn g; refine HC.out.mono ?_; rintro e w' ⟨rfl, hb1⟩)
        go_roundg (xs.length - (k + 1))
        case measure => omega
        case rel => exact ⟨k + 1, by omega, rfl, by go_num, bl_trans hb1 hb, fun j hj hjk => by
          rcases Nat.lt_or_eq_of_le (Nat.le_of_lt_succ hjk) with h | h
          · exact H.out j hj h
          · subst h; rw [HX.out]; exact HQ.out⟩
      | true =>
        go_wp2_with (go_at_fn g; refine HC.out.mono ?_; rintro e w' ⟨rfl, hb1⟩)
        go_ret
        exact ⟨⟨_, rfl, by rw [List.any_eq_true.2 ⟨x, HM.out, HQ.out⟩]; simp⟩, bl_trans hb1 hb⟩
    · have HF : Hid (xs.any p = false) := any_no _ xs fun j hj => H.out j hj (by omega)
      go_wp2
      go_ret
      exact ⟨⟨_, rfl, by rw [HF.out]; rfl⟩, hb⟩
set_option maxHeartbeats 400000 in
theorem idxI_nil (A : Option Addr) (c : Nat) (fv : Value) (w : World) :
    Calls Tryz.prog 65 #[.slice A 0 c, fv] w fun e w' => e = .returned (.int .i64 (-1)) ∧ Below w.heap.size w w' := by
  go_enter Tryz.func65, Tryz.ntmps65
  go_wp2
  go_loopg [5, 8] 0 (fun _ _ i wr => i = .int .i64 0 ∧ Below w.heap.size w wr)
  case atStart => exact ⟨rfl, Below.refl _ _⟩
  case round =>
    obtain ⟨rfl, hb⟩ := hrel
    go_wp2
    go_ret
    exact ⟨rfl, hb⟩
theorem idxI_any (A : Option Addr) (c g : Nat) (cap : Array Value) (p : Int → Bool) (xs : List Int) (ok : Nat → Prop) (w : World) (eg : ∀ args w, (callFunc g args).run Tryz.prog w = .ok (.enter g args) w)
    (h : Rd Ly.i64 w ok A xs.length xs) (hp : Pays g cap (Value.int .i64) p xs w) :
    Calls Tryz.prog 65 #[.slice A xs.length c, .func (.func g) #[] cap] w fun e w' => (∃ r : Int, e = .returned (.int .i64 r) ∧ xs.any p = decide (0 ≤ r)) ∧ Below w.heap.size w w' := by
  rcases h.ways with ⟨h0, rfl⟩ | ⟨_, b, o, rfl⟩
  · exact (idxI_nil A c _ w).mono fun e w' ⟨h1, h2⟩ => ⟨⟨_, h1, rfl⟩, h2⟩
  · exact idxI_some b o c g cap p xs ok w eg h hp
theorem contI_any (A : Option Addr) (c g : Nat) (cap : Array Value) (p : Int → Bool) (xs : List Int) (ok : Nat → Prop) (w : World) (eg : ∀ args w, (callFunc g args).run Tryz.prog w = .ok (.enter g args) w)
    (h : Rd Ly.i64 w ok A xs.length xs) (hp : Pays g cap (Value.int .i64) p xs w) :
    Calls Tryz.prog 42 #[.slice A xs.length c, .func (.func g) #[] cap] w fun e w' => e = .returned (.bool (xs.any p)) ∧ Below w.heap.size w w' := by
  have hi := idxI_any A c g cap p xs ok w eg h hp
  have HI := Lib.hid hi; clear hi h hp
  go_enter Tryz.func42, Tryz.ntmps42
  go_wp2_with (go_at_call 65; refine HI.out.mono ?_; rintro e w' ⟨⟨r, rfl, hr⟩, hb⟩; have HR := Lib.hid hr; clear hr)
  go_ret
  exact ⟨by rw [HR.out]; rfl, hb⟩


set_option maxHeartbeats 800000 in
theorem idxD_some (b o c g : Nat) (cap : Array Value) (p : Dec → Bool) (xs : List Dec) (ok : Nat → Prop) (w : World) (eg : ∀ args w, (callFunc g args).run Tryz.prog w = .ok (.enter g args) w)
    (h : Rd lDec w ok (some ⟨b, o, none⟩) xs.length xs) (hp : Pays g cap decW p xs w) :
    Calls Tryz.prog 64 #[.slice (some ⟨b, o, none⟩) xs.length c, .func (.func g) #[] cap] w fun e w' => (∃ r : Int, e = .returned (.int .i64 r) ∧ xs.any p = decide (0 ≤ r)) ∧ Below w.heap.size w w' := by
  have hm := h.max
  have HP := Lib.hid hp; clear hp
  have HR := Lib.hid h; clear h
  go_enter Tryz.func64, Tryz.ntmps64
  go_wp2
  go_loopg [5, 8] xs.length (fun gg _ i wr => ∃ k : Nat, k ≤ xs.length ∧ gg = xs.length - k ∧ i = .int .i64 k ∧ Below w.heap.size w wr ∧ Hid (∀ j (hj : j < xs.length), j < k → p xs[j] = false))
  case atStart => exact ⟨0, by omega, by omega, rfl, Below.refl _ _, fun j _ h => absurd h (by omega)⟩
  case round =>
    obtain ⟨k, hk, rfl, rfl, hb, H⟩ := hrel
    by_cases hlt : k < xs.length
    · have hcell := (HR.out.below (by decide) hb).atD k hlt
      have hcall := HP.out wr xs[k] (List.getElem_mem hlt) hb
      have HM : Hid (xs[k] ∈ xs) := List.getElem_mem hlt
      generalize hx : xs[k] = x at hcell hcall HM
      have HX := Lib.hid hx; clear hx
      obtain ⟨hcell1, hcell2⟩ := hcell
      unfold decW at hcall
      generalize hq : p x = q at hcall
      have HQ := Lib.hid hq; clear hq
      have HC := Lib.hid hcall; clear hcall
      cases q with
      | false =>
        go_wp2_with (go_at_fn g; refine HC.out.mono ?_; rintro e w' ⟨rfl, hb1⟩)
        go_roundg (xs.length - (k + 1))
        case measure => omega
        case rel => exact ⟨k + 1, by omega, rfl, by go_num, bl_trans hb1 hb, fun j hj hjk => by
          rcases Nat.lt_or_eq_of_le (Nat.le_of_lt_succ hjk) with h | h
          · exact H.out j hj h
          · subst h; rw [HX.out]; exact HQ.out⟩
      | true =>
        go_wp2_with (go_at_fn g; refine HC.out.mono ?_; rintro e w' ⟨rfl, hb1⟩)
        go_ret
        exact ⟨⟨_, rfl, by rw [List.any_eq_true.2 ⟨x, HM.out, HQ.out⟩]; simp⟩, bl_trans hb1 hb⟩
    · have HF : Hid (xs.any p = false) := any_no _ xs fun j hj => H.out j hj (by omega)
      go_wp2
      go_ret
      exact ⟨⟨_, rfl, by rw [HF.out]; rfl⟩, hb⟩
set_option maxHeartbeats 400000 in
theorem idxD_nil (A : Option Addr) (c : Nat) (fv : Value) (w : World) :
    Calls Tryz.prog 64 #[.slice A 0 c, fv] w fun e w' => e = .returned (.int .i64 (-1)) ∧ Below w.heap.size w w' := by
  go_enter Tryz.func64, Tryz.ntmps64
  go_wp2
  go_loopg [5, 8] 0 (fun _ _ i wr => i = .int .i64 0 ∧ Below w.heap.size w wr)
  case atStart => exact ⟨rfl, Below.refl _ _⟩
  case round =>
    obtain ⟨rfl, hb⟩ := hrel
    go_wp2
    go_ret
    exact ⟨rfl, hb⟩
theorem idxD_any (A : Option Addr) (c g : Nat) (cap : Array Value) (p : Dec → Bool) (xs : List Dec) (ok : Nat → Prop) (w : World) (eg : ∀ args w, (callFunc g args).run Tryz.prog w = .ok (.enter g args) w)
    (h : Rd lDec w ok A xs.length xs) (hp : Pays g cap decW p xs w) :
    Calls Tryz.prog 64 #[.slice A xs.length c, .func (.func g) #[] cap] w fun e w' => (∃ r : Int, e = .returned (.int .i64 r) ∧ xs.any p = decide (0 ≤ r)) ∧ Below w.heap.size w w' := by
  rcases h.ways with ⟨h0, rfl⟩ | ⟨_, b, o, rfl⟩
  · exact (idxD_nil A c _ w).mono fun e w' ⟨h1, h2⟩ => ⟨⟨_, h1, rfl⟩, h2⟩
  · exact idxD_some b o c g cap p xs ok w eg h hp
theorem contD_any (A : Option Addr) (c g : Nat) (cap : Array Value) (p : Dec → Bool) (xs : List Dec) (ok : Nat → Prop) (w : World) (eg : ∀ args w, (callFunc g args).run Tryz.prog w = .ok (.enter g args) w)
    (h : Rd lDec w ok A xs.length xs) (hp : Pays g cap decW p xs w) :
    Calls Tryz.prog 37 #[.slice A xs.length c, .func (.func g) #[] cap] w fun e w' => e = .returned (.bool (xs.any p)) ∧ Below w.heap.size w w' := by
  have hi := idxD_any A c g cap p xs ok w eg h hp
  have HI := Lib.hid hi; clear hi h hp
  go_enter Tryz.func37, Tryz.ntmps37
  go_wp2_with (go_at_call 64; refine HI.out.mono ?_; rintro e w' ⟨⟨r, rfl, hr⟩, hb⟩; have HR := Lib.hid hr; clear hr)
  go_ret
  exact ⟨by rw [HR.out]; rfl, hb⟩

end Go.Proofs.T
namespace Go.Proofs.T
open Go.RowKit
def countL : List Int → Int → Int × Bool
  | [], n => (n, true)
  | k :: r, n => if wrongN (n * k) then (0, false) else countL r (n * k)
/-- How many items a shape has. -/
def countS (s : List Int) : Int × Bool :=
  if 16 < s.length then (0, false) else if s.any wrongN then (0, false) else if s.contains 0 then (0, true) else countL s 1

theorem pays209 (xs : List Int) (w : World) : Pays 62 #[] (Value.int .i64) wrongN xs w := fun W x _ _ =>
  (c209 x W).mono fun _ _ ⟨h1, h2⟩ => ⟨h1, h2 ▸ Below.refl _ _⟩
theorem eg209 : ∀ args w, (callFunc 62 args).run Tryz.prog w = .ok (.enter 62 args) w := enters_of Tryz.func62 (by kernel_rfl) rfl

theorem contains_any (A : Option Addr) (c : Nat) (x : Int) (xs : List Int) (ok : Nat → Prop) (w : World) (h : Rd Ly.i64 w ok A xs.length xs) :
    Calls Tryz.prog 63 #[.slice A xs.length c, .int .i64 x] w fun e w' => e = .returned (.bool (xs.contains x)) ∧ w' = w := by
  rcases h.ways with ⟨h0, rfl⟩ | ⟨_, b, o, rfl⟩
  · exact Tryz.slices_Contains_int_empty A c x w
  · have := Tryz.slices_Contains_int b o xs.length c xs x w (Nat.le_refl _) h.max h.getI
    rwa [List.take_length] at this

theorem wrongN_iff {n : Int} : wrongN n = false ↔ 0 ≤ n ∧ n ≤ 1048576 := by simp [wrongN]

set_option maxHeartbeats 800000 in
theorem count_some (b o c : Nat) (xs : List Int) (ok : Nat → Prop) (w : World) (h : Rd Ly.i64 w ok (some ⟨b, o, none⟩) xs.length xs) (hl : ¬ 16 < xs.length) (ha : xs.any wrongN = false) (h0 : xs.contains 0 = false) :
    Calls Tryz.prog 36 #[.slice (some ⟨b, o, none⟩) xs.length c] w fun e w' => e = .returned (.tuple #[.int .i64 (countL xs 1).1, .bool (countL xs 1).2]) ∧ Below w.heap.size w w' := by
  have hm := h.max
  have HA := Lib.hid ha; have H0 := Lib.hid h0
  have HR := Lib.hid h; clear h ha h0
  go_enter Tryz.func36, Tryz.ntmps36
  go_wp2_with (first
    | (go_at_call 42; refine (contI_any _ _ 62 #[] wrongN xs ok w eg209 HR.out (pays209 xs w)).mono ?_; rw [HA.out]; rintro e w1 ⟨rfl, hb1⟩)
    | (go_at_call 63; refine (contains_any _ _ 0 xs ok _ (HR.out.below (by decide) hb1)).mono ?_; rw [H0.out]; rintro e w' ⟨rfl, rfl⟩))
  go_loopg [5, 7, 22] xs.length (fun gg v _ i wr => ∃ (k : Nat) (q : Int), k ≤ xs.length ∧ gg = xs.length - k ∧ v = .int .i64 q ∧ i = .int .i64 k ∧ 0 ≤ q ∧ q ≤ 1048576 ∧ Below w.heap.size w wr ∧ Hid (countL (xs.drop k) q = countL xs 1))
  case atStart => exact ⟨0, 1, by omega, by omega, rfl, rfl, by omega, by omega, hb1, rfl⟩
  case round =>
    obtain ⟨k, q, hk, rfl, rfl, rfl, hq0, hq1, hb, H⟩ := hrel
    by_cases hlt : k < xs.length
    · have hcell := (HR.out.below (by decide) hb).at1 k hlt
      have hx01 := wrongN_iff.1 (by simpa using List.any_eq_false.1 HA.out xs[k] (List.getElem_mem hlt))
      have hd : Hid (xs.drop k = xs[k] :: xs.drop (k + 1)) := List.drop_eq_getElem_cons hlt
      generalize hx : xs[k] = x at hcell hd hx01
      clear hx
      obtain ⟨hx0, hx1⟩ := hx01
      have hp0 : 0 ≤ q * x := Int.mul_nonneg hq0 hx0
      have hp1 : q * x ≤ 1048576 * 1048576 := Int.mul_le_mul hq1 hx1 hx0 (by omega)
      have hc := fun W => c209 (q * x) W
      cases hw : wrongN (q * x) with
      | true =>
        have H2 : Hid (countL xs 1 = (0, false)) := by rw [← H.out, hd.out, countL, if_pos hw]; rfl
        rw [hw] at hc
        have HC := Lib.hid hc; clear hc hw
        go_wp2_with (go_at_call 62; refine (HC.out _).mono ?_; rintro e w' ⟨rfl, rfl⟩)
        go_ret2
        exact ⟨by rw [H2.out]; rfl, hb⟩
      | false =>
        have H2 : Hid (countL (xs.drop (k + 1)) (q * x) = countL xs 1) := by rw [← H.out, hd.out, countL, if_neg (by rw [hw]; decide)]; rfl
        have hq' := wrongN_iff.1 hw
        rw [hw] at hc
        have HC := Lib.hid hc; clear hc hw hp1
        go_wp2_with (go_at_call 62; refine (HC.out _).mono ?_; rintro e w' ⟨rfl, rfl⟩)
        go_roundg (xs.length - (k + 1))
        case measure => omega
        case rel => exact ⟨k + 1, q * x, by omega, rfl, rfl, by go_num, hq'.1, hq'.2, hb, H2⟩
    · have hkn : k = xs.length := by omega
      have H2 : Hid (countL xs 1 = (q, true)) := by rw [← H.out, hkn, List.drop_length]; rfl
      clear hkn
      go_wp2
      go_ret2
      exact ⟨by rw [H2.out]; rfl, hb⟩

set_option maxHeartbeats 400000 in
theorem count_none (A : Option Addr) (c : Nat) (w : World) :
    Calls Tryz.prog 36 #[.slice A ([] : List Int).length c] w fun e w' => e = .returned (.tuple #[.int .i64 (countL [] 1).1, .bool (countL [] 1).2]) ∧ Below w.heap.size w w' := by
  have hr := fun W ok => Rd.nil Ly.i64 W ok A
  have hc := fun W => contI_any A c 62 #[] wrongN [] (fun _ => True) W eg209 (hr W _) (pays209 [] W)
  have hn := fun W => contains_any A c 0 [] (fun _ => True) W (hr W _)
  have HC := Lib.hid hc; have HN := Lib.hid hn; clear hc hn hr
  show Calls Tryz.prog 36 #[.slice A 0 c] w fun e w' => e = .returned (.tuple #[.int .i64 1, .bool true]) ∧ Below w.heap.size w w'
  go_enter Tryz.func36, Tryz.ntmps36
  go_wp2_with (first
    | (go_at_call 42; refine (HC.out _).mono ?_; rintro e w1 ⟨rfl, hb1⟩)
    | (go_at_call 63; refine (HN.out _).mono ?_; rintro e w' ⟨rfl, rfl⟩))
  go_loopg [5, 7, 22] 0 (fun gg v _ i wr => v = .int .i64 1 ∧ i = .int .i64 0 ∧ Below w.heap.size w wr)
  case atStart => exact ⟨rfl, rfl, hb1⟩
  case round =>
    obtain ⟨rfl, rfl, hb⟩ := hrel
    go_wp2
    go_ret2
    exact ⟨rfl, hb⟩
set_option maxHeartbeats 400000 in
theorem count_any (A : Option Addr) (c : Nat) (xs : List Int) (ok : Nat → Prop) (w : World) (h : Rd Ly.i64 w ok A xs.length xs) :
    Calls Tryz.prog 36 #[.slice A xs.length c] w fun e w' => e = .returned (.tuple #[.int .i64 (countS xs).1, .bool (countS xs).2]) ∧ Below w.heap.size w w' := by
  have hm := h.max
  by_cases hl : 16 < xs.length
  · rw [countS, if_pos hl]
    clear h
    go_enter Tryz.func36, Tryz.ntmps36
    go_wp2
    go_ret2
    exact ⟨rfl, Below.refl _ _⟩
  · rw [countS, if_neg hl]
    cases ha : xs.any wrongN with
    | true =>
      rw [if_pos rfl]
      have HA := Lib.hid ha
      have HR := Lib.hid h; clear h ha
      go_enter Tryz.func36, Tryz.ntmps36
      go_wp2_with (go_at_call 42; refine (contI_any _ _ 62 #[] wrongN xs ok w eg209 HR.out (pays209 xs w)).mono ?_; rw [HA.out]; rintro e w1 ⟨rfl, hb1⟩)
      go_ret2
      exact ⟨rfl, hb1⟩
    | false =>
      rw [if_neg (by decide)]
      cases h0 : xs.contains 0 with
      | true =>
        rw [if_pos rfl]
        have HA := Lib.hid ha; have H0 := Lib.hid h0
        have HR := Lib.hid h; clear h ha h0
        go_enter Tryz.func36, Tryz.ntmps36
        go_wp2_with (first
          | (go_at_call 42; refine (contI_any _ _ 62 #[] wrongN xs ok w eg209 HR.out (pays209 xs w)).mono ?_; rw [HA.out]; rintro e w1 ⟨rfl, hb1⟩)
          | (go_at_call 63; refine (contains_any _ _ 0 xs ok _ (HR.out.below (by decide) hb1)).mono ?_; rw [H0.out]; rintro e w' ⟨rfl, rfl⟩))
        go_ret2
        exact ⟨rfl, hb1⟩
      | false =>
        rw [if_neg (by decide)]
        rcases h.ways with ⟨e0, rfl⟩ | ⟨_, b, o, rfl⟩
        · exact count_none A c w
        · exact count_some b o c xs ok w h hl ha h0
/-- What an array's node has. -/
def itemsN (n : Node) : Int :=
  if (countS n.shape).2 = false then -1 else
  let k := (countS n.shape).1
  if n.kind = 1 ∨ n.kind = 2 ∨ n.kind = 3 then (if (n.ints.length : Int) ≠ k ∨ n.decs.length ≠ 0 ∨ (n.ints.any fun x => !fitsN n.kind x) = true then -1 else k)
  else if n.kind = 4 then (if n.ints.length ≠ 0 ∨ (n.decs.length : Int) ≠ k ∨ (n.decs.any fun d => !rightD d.man d.exp) = true then -1 else k)
  else if n.kind = 5 then (if n.ints.length ≠ 0 ∨ n.decs.length ≠ 0 then -1 else k)
  else -1
end Go.Proofs.T
namespace Go.Proofs.T
open Go.RowKit
def I64s (l : List Int) : Prop := ∀ x ∈ l, I64 x
def DecOk (d : Dec) : Prop := I64 d.man ∧ I64 d.exp
def DecsOk (l : List Dec) : Prop := ∀ d ∈ l, DecOk d
structure NodeOk (n : Node) : Prop where
  kind : I64 n.kind
  shape : I64s n.shape
  ints : I64s n.ints
  decs : DecsOk n.decs

set_option maxHeartbeats 400000 in
theorem c399 (B : Nat) (k x : Int) (hx : I64 x) (W : World) (h : W.cell? ⟨B, 0, none⟩ = some (.int .i64 k)) :
    Calls Tryz.prog 85 #[.int .i64 x, .pointer (some ⟨B, 0, none⟩)] W fun e w' => e = .returned (.bool (fitsN k x)) ∧ Below W.heap.size W w' := by
  have hc := fits_any k x hx
  have HC := Lib.hid hc; clear hc hx
  go_enter Tryz.func85, Tryz.ntmps85
  go_wp2_with (go_at_call 86; refine (HC.out _).mono ?_; rintro e w' ⟨rfl, rfl⟩)
  go_ret
  exact ⟨rfl, Below.refl _ _⟩
theorem eg399 : ∀ args w, (callFunc 85 args).run Tryz.prog w = .ok (.enter 85 args) w := enters_of Tryz.func85 (by kernel_rfl) rfl
theorem eg39 : ∀ args w, (callFunc 17 args).run Tryz.prog w = .ok (.enter 17 args) w := enters_of Tryz.func17 (by kernel_rfl) rfl
theorem pays399 (k : Int) (xs : List Int) (hxs : I64s xs) (B : Nat) (w : World) (h : w.cell? ⟨B, 0, none⟩ = some (.int .i64 k)) : Pays 85 #[.pointer (some ⟨B, 0, none⟩)] (Value.int .i64) (fitsN k) xs w := fun W x hx hb =>
  c399 B k x (hxs x hx) W (((bcell hb).1 B 0 (cell_lt h)).trans h)
theorem pays39 (xs : List Dec) (hxs : DecsOk xs) (w : World) : Pays 17 #[] decW (fun d => rightD d.man d.exp) xs w := fun W x hx _ => right_any x.man x.exp (hxs x hx).1 (hxs x hx).2 W

theorem Rd.alloc {α : Type} {L : Ly α} {w : World} {ok : Nat → Prop} {A : Option Addr} {n : Nat} {xs : List α} (hz : 0 < L.sz) (h : Rd L w ok A n xs) (q : Obj) : Rd L (w.alloc q) ok A n xs := h.below hz (bl_alloc (Below.refl _ _) q)

section
variable (kind : Int) (shape ints : List Int) (decs : List Dec) (A1 A2 A3 : Option Addr) (c1 c2 c3 : Nat) (ok : Nat → Prop) (w : World)
def nodeW (kind : Int) (shape ints : List Int) (decs : List Dec) (A1 A2 A3 : Option Addr) (c1 c2 c3 : Nat) : Value :=
  .agg #[.int .i64 kind, .slice A1 shape.length c1, .slice A2 ints.length c2, .slice A3 decs.length c3]

set_option maxHeartbeats 400000 in
/-- The shape is wrong. -/
theorem items_shape (h1 : Rd Ly.i64 w ok A1 shape.length shape) (hs : (countS shape).2 = false) :
    Calls Tryz.prog 70 #[nodeW kind shape ints decs A1 A2 A3 c1 c2 c3] w fun e w' => e = .returned (.int .i64 (-1)) ∧ Below w.heap.size w w' := by
  unfold nodeW
  have hc := fun q => count_any A1 c1 shape ok _ (h1.alloc (by decide) q)
  rcases hC : countS shape with ⟨k, b⟩
  rw [hC] at hs hc
  subst hs
  have HC := Lib.hid hc; clear hc h1 hC
  go_enter Tryz.func70, Tryz.ntmps70
  go_wp2_with (go_at_call 36; refine (HC.out _).mono ?_; rintro e w1 ⟨rfl, hb⟩)
  go_ret
  exact ⟨rfl, bl_trans hb (bl_alloc (Below.refl _ _) _)⟩

set_option maxHeartbeats 400000 in
/-- No such kind. -/
theorem items_kind (h1 : Rd Ly.i64 w ok A1 shape.length shape) (hk : kind ≠ 1 ∧ kind ≠ 2 ∧ kind ≠ 3 ∧ kind ≠ 4 ∧ kind ≠ 5) :
    Calls Tryz.prog 70 #[nodeW kind shape ints decs A1 A2 A3 c1 c2 c3] w fun e w' => e = .returned (.int .i64 (-1)) ∧ Below w.heap.size w w' := by
  by_cases hs : (countS shape).2 = false
  · exact items_shape kind shape ints decs A1 A2 A3 c1 c2 c3 ok w h1 hs
  · unfold nodeW
    have hc := fun q => count_any A1 c1 shape ok _ (h1.alloc (by decide) q)
    rcases hC : countS shape with ⟨k, b⟩
    rw [hC] at hs hc
    obtain rfl : b = true := by simpa using hs
    have e1 : (kind == 1) = false := by simpa using hk.1
    have e2 : (kind == 2) = false := by simpa using hk.2.1
    have e3 : (kind == 3) = false := by simpa using hk.2.2.1
    have e4 : (kind == 4) = false := by simpa using hk.2.2.2.1
    have e5 : (kind == 5) = false := by simpa using hk.2.2.2.2
    have HC := Lib.hid hc; clear hc h1 hC hs hk
    go_enter Tryz.func70, Tryz.ntmps70
    go_wp2_with (go_at_call 36; refine (HC.out _).mono ?_; rintro e w1 ⟨rfl, hb⟩; obtain ⟨hc, hf⟩ := bcell hb)
    go_ret
    exact ⟨rfl, bl_trans hb (bl_alloc (Below.refl _ _) _)⟩

set_option maxHeartbeats 800000 in
theorem items_num (h1 : Rd Ly.i64 w ok A1 shape.length shape) (h2 : Rd Ly.i64 w ok A2 ints.length ints) (h3 : Rd lDec w ok A3 decs.length decs) (hi : I64s ints) (hd : DecsOk decs) (k : Int) (hs : countS shape = (k, true)) (hk : kind = 1 ∨ kind = 2 ∨ kind = 3) :
    Calls Tryz.prog 70 #[nodeW kind shape ints decs A1 A2 A3 c1 c2 c3] w fun e w' => e = .returned (.int .i64 (if (ints.length : Int) ≠ k ∨ decs.length ≠ 0 ∨ (ints.any fun x => !fitsN kind x) = true then -1 else k)) ∧ Below w.heap.size w w' := by
  unfold nodeW
  have hc := fun q => count_any A1 c1 shape ok _ (h1.alloc (by decide) q)
  rw [hs] at hc
  have HC := Lib.hid hc; clear hc hs
  have R2 := Lib.hid h2; have R3 := Lib.hid h3; have m2 := h2.max; have m3 := h3.max
  have HI := Lib.hid hi; have HD := Lib.hid hd
  clear h1 h2 h3 hi hd
  have hk' : (kind == 1) = true ∨ ((kind == 1) = false ∧ (kind == 2) = true) ∨ ((kind == 1) = false ∧ (kind == 2) = false ∧ (kind == 3) = true) := by rcases hk with h | h | h <;> simp [h]
  clear hk
  by_cases ha : (ints.length : Int) = k
  · by_cases hb0 : decs.length = 0
    · have hdn : decs = [] := List.eq_nil_of_length_eq_zero hb0
      subst hdn
      have e1 : ((ints.length : Int) != k) = false := by simpa using ha
      clear hb0
      cases hz : (ints.any fun x => !fitsN kind x) with
      | true =>
        rw [if_pos (.inr (.inr rfl))]
        have HZ := Lib.hid hz
        clear ha hz
        rcases hk' with k1 | ⟨k1, k2⟩ | ⟨k1, k2, k3⟩
        all_goals
          go_enter Tryz.func70, Tryz.ntmps70
          go_wp2_with (first
            | (go_at_call 36; refine (HC.out _).mono ?_; rintro e w1 ⟨rfl, hb⟩; obtain ⟨hc, hf⟩ := bcell hb; have bz : w.heap.size < w1.heap.size := by have := hb.size; simp at this; omega)
            | (go_at_call 87; refine (wrongsI_any A2 c2 85 _ (fitsN kind) ints ok _ eg399 ((R2.out.alloc (by decide) _).below (by decide) hb) (pays399 kind ints HI.out w.heap.size _ (by rw [hc _ _ (by simp)]; simp))).mono ?_; rw [HZ.out]; rintro e w2 ⟨rfl, hb2⟩; obtain ⟨hc2, hf2⟩ := bcell hb2))
          go_ret
          exact ⟨rfl, bl_trans hb2 (bl_trans hb (bl_alloc (Below.refl _ _) _))⟩
      | false =>
        rw [if_neg (by simp [ha])]
        have HZ := Lib.hid hz
        clear ha hz
        rcases hk' with k1 | ⟨k1, k2⟩ | ⟨k1, k2, k3⟩
        all_goals
          go_enter Tryz.func70, Tryz.ntmps70
          go_wp2_with (first
            | (go_at_call 36; refine (HC.out _).mono ?_; rintro e w1 ⟨rfl, hb⟩; obtain ⟨hc, hf⟩ := bcell hb; have bz : w.heap.size < w1.heap.size := by have := hb.size; simp at this; omega)
            | (go_at_call 87; refine (wrongsI_any A2 c2 85 _ (fitsN kind) ints ok _ eg399 ((R2.out.alloc (by decide) _).below (by decide) hb) (pays399 kind ints HI.out w.heap.size _ (by rw [hc _ _ (by simp)]; simp))).mono ?_; rw [HZ.out]; rintro e w2 ⟨rfl, hb2⟩; obtain ⟨hc2, hf2⟩ := bcell hb2)
            | (go_at_call 88; refine (wrongsD_nil A3 c3 _ _).mono ?_; rintro e w3 ⟨rfl, hb3⟩))
          go_ret
          exact ⟨rfl, bl_trans hb3 (bl_trans hb2 (bl_trans hb (bl_alloc (Below.refl _ _) _)))⟩
    · rw [if_pos (.inr (.inl hb0))]
      have e1 : ((ints.length : Int) != k) = false := by simpa using ha
      have e2 : ((decs.length : Int) != 0) = true := by simp; exact fun h => hb0 (by rw [h]; rfl)
      clear ha hb0
      rcases hk' with k1 | ⟨k1, k2⟩ | ⟨k1, k2, k3⟩
      all_goals
        go_enter Tryz.func70, Tryz.ntmps70
        go_wp2_with (go_at_call 36; refine (HC.out _).mono ?_; rintro e w1 ⟨rfl, hb⟩; obtain ⟨hc, hf⟩ := bcell hb; have bz : w.heap.size < w1.heap.size := by have := hb.size; simp at this; omega)
        go_ret
        exact ⟨rfl, bl_trans hb (bl_alloc (Below.refl _ _) _)⟩
  · rw [if_pos (.inl ha)]
    have e1 : ((ints.length : Int) != k) = true := by simpa using ha
    clear ha
    rcases hk' with k1 | ⟨k1, k2⟩ | ⟨k1, k2, k3⟩
    all_goals
      go_enter Tryz.func70, Tryz.ntmps70
      go_wp2_with (go_at_call 36; refine (HC.out _).mono ?_; rintro e w1 ⟨rfl, hb⟩; obtain ⟨hc, hf⟩ := bcell hb; have bz : w.heap.size < w1.heap.size := by have := hb.size; simp at this; omega)
      go_ret
      exact ⟨rfl, bl_trans hb (bl_alloc (Below.refl _ _) _)⟩

set_option maxHeartbeats 800000 in
theorem items_dec (h1 : Rd Ly.i64 w ok A1 shape.length shape) (h2 : Rd Ly.i64 w ok A2 ints.length ints) (h3 : Rd lDec w ok A3 decs.length decs) (hi : I64s ints) (hd : DecsOk decs) (k : Int) (hs : countS shape = (k, true)) :
    Calls Tryz.prog 70 #[nodeW 4 shape ints decs A1 A2 A3 c1 c2 c3] w fun e w' => e = .returned (.int .i64 (if ints.length ≠ 0 ∨ (decs.length : Int) ≠ k ∨ (decs.any fun d => !rightD d.man d.exp) = true then -1 else k)) ∧ Below w.heap.size w w' := by
  unfold nodeW
  have hc := fun q => count_any A1 c1 shape ok _ (h1.alloc (by decide) q)
  rw [hs] at hc
  have HC := Lib.hid hc; clear hc hs
  have R2 := Lib.hid h2; have R3 := Lib.hid h3; have m2 := h2.max; have m3 := h3.max
  have HI := Lib.hid hi; have HD := Lib.hid hd
  clear h1 h2 h3 hi hd
  by_cases ha : ints.length = 0
  · obtain rfl : ints = [] := List.eq_nil_of_length_eq_zero ha
    by_cases hb0 : (decs.length : Int) = k
    · have e2 : ((decs.length : Int) != k) = false := by simpa using hb0
      cases hz : (decs.any fun d => !rightD d.man d.exp) with
      | true =>
        rw [if_pos (.inr (.inr rfl))]
        have HZ := Lib.hid hz
        clear ha hz hb0
        go_enter Tryz.func70, Tryz.ntmps70
        go_wp2_with (first
          | (go_at_call 36; refine (HC.out _).mono ?_; rintro e w1 ⟨rfl, hb⟩; obtain ⟨hc, hf⟩ := bcell hb; have bz : w.heap.size < w1.heap.size := by have := hb.size; simp at this; omega)
          | (go_at_call 87; refine (wrongsI_nil A2 c2 _ _).mono ?_; rintro e w2 ⟨rfl, hb2⟩; obtain ⟨hc2, hf2⟩ := bcell hb2)
          | (go_at_call 88; refine (wrongsD_any A3 c3 17 _ (fun d => rightD d.man d.exp) decs ok _ eg39 (((R3.out.alloc (by decide) _).below (by decide) hb).below (by decide) hb2) (pays39 decs HD.out _)).mono ?_; rw [HZ.out]; rintro e w3 ⟨rfl, hb3⟩))
        go_ret
        exact ⟨rfl, bl_trans hb3 (bl_trans hb2 (bl_trans hb (bl_alloc (Below.refl _ _) _)))⟩
      | false =>
        rw [if_neg (by simp [hb0])]
        have HZ := Lib.hid hz
        clear ha hz hb0
        go_enter Tryz.func70, Tryz.ntmps70
        go_wp2_with (first
          | (go_at_call 36; refine (HC.out _).mono ?_; rintro e w1 ⟨rfl, hb⟩; obtain ⟨hc, hf⟩ := bcell hb; have bz : w.heap.size < w1.heap.size := by have := hb.size; simp at this; omega)
          | (go_at_call 87; refine (wrongsI_nil A2 c2 _ _).mono ?_; rintro e w2 ⟨rfl, hb2⟩; obtain ⟨hc2, hf2⟩ := bcell hb2)
          | (go_at_call 88; refine (wrongsD_any A3 c3 17 _ (fun d => rightD d.man d.exp) decs ok _ eg39 (((R3.out.alloc (by decide) _).below (by decide) hb).below (by decide) hb2) (pays39 decs HD.out _)).mono ?_; rw [HZ.out]; rintro e w3 ⟨rfl, hb3⟩))
        go_ret
        exact ⟨rfl, bl_trans hb3 (bl_trans hb2 (bl_trans hb (bl_alloc (Below.refl _ _) _)))⟩
    · rw [if_pos (.inr (.inl hb0))]
      have e2 : ((decs.length : Int) != k) = true := by simpa using hb0
      clear ha hb0
      go_enter Tryz.func70, Tryz.ntmps70
      go_wp2_with (go_at_call 36; refine (HC.out _).mono ?_; rintro e w1 ⟨rfl, hb⟩; obtain ⟨hc, hf⟩ := bcell hb; have bz : w.heap.size < w1.heap.size := by have := hb.size; simp at this; omega)
      go_ret
      exact ⟨rfl, bl_trans hb (bl_alloc (Below.refl _ _) _)⟩
  · rw [if_pos (.inl ha)]
    have e1 : ((ints.length : Int) != 0) = true := by simp; exact fun h => ha (by rw [h]; rfl)
    clear ha
    go_enter Tryz.func70, Tryz.ntmps70
    go_wp2_with (go_at_call 36; refine (HC.out _).mono ?_; rintro e w1 ⟨rfl, hb⟩; obtain ⟨hc, hf⟩ := bcell hb; have bz : w.heap.size < w1.heap.size := by have := hb.size; simp at this; omega)
    go_ret
    exact ⟨rfl, bl_trans hb (bl_alloc (Below.refl _ _) _)⟩

set_option maxHeartbeats 800000 in
theorem items_nest (h1 : Rd Ly.i64 w ok A1 shape.length shape) (h2 : Rd Ly.i64 w ok A2 ints.length ints) (h3 : Rd lDec w ok A3 decs.length decs) (hi : I64s ints) (hd : DecsOk decs) (k : Int) (hs : countS shape = (k, true)) :
    Calls Tryz.prog 70 #[nodeW 5 shape ints decs A1 A2 A3 c1 c2 c3] w fun e w' => e = .returned (.int .i64 (if ints.length ≠ 0 ∨ decs.length ≠ 0 then -1 else k)) ∧ Below w.heap.size w w' := by
  unfold nodeW
  have hc := fun q => count_any A1 c1 shape ok _ (h1.alloc (by decide) q)
  rw [hs] at hc
  have HC := Lib.hid hc; clear hc hs
  have R2 := Lib.hid h2; have R3 := Lib.hid h3; have m2 := h2.max; have m3 := h3.max
  have HI := Lib.hid hi; have HD := Lib.hid hd
  clear h1 h2 h3 hi hd
  by_cases ha : ints.length = 0
  · obtain rfl : ints = [] := List.eq_nil_of_length_eq_zero ha
    by_cases hb0 : decs.length = 0
    · obtain rfl : decs = [] := List.eq_nil_of_length_eq_zero hb0
      rw [if_neg (by simp)]
      clear ha hb0
      go_enter Tryz.func70, Tryz.ntmps70
      go_wp2_with (first
        | (go_at_call 36; refine (HC.out _).mono ?_; rintro e w1 ⟨rfl, hb⟩; obtain ⟨hc, hf⟩ := bcell hb; have bz : w.heap.size < w1.heap.size := by have := hb.size; simp at this; omega)
        | (go_at_call 87; refine (wrongsI_nil A2 c2 _ _).mono ?_; rintro e w2 ⟨rfl, hb2⟩; obtain ⟨hc2, hf2⟩ := bcell hb2)
        | (go_at_call 88; refine (wrongsD_nil A3 c3 _ _).mono ?_; rintro e w3 ⟨rfl, hb3⟩))
      go_ret
      exact ⟨rfl, bl_trans hb3 (bl_trans hb2 (bl_trans hb (bl_alloc (Below.refl _ _) _)))⟩
    · rw [if_pos (.inr hb0)]
      have e2 : ((decs.length : Int) != 0) = true := by simp; exact fun h => hb0 (by rw [h]; rfl)
      clear ha hb0
      go_enter Tryz.func70, Tryz.ntmps70
      go_wp2_with (go_at_call 36; refine (HC.out _).mono ?_; rintro e w1 ⟨rfl, hb⟩; obtain ⟨hc, hf⟩ := bcell hb; have bz : w.heap.size < w1.heap.size := by have := hb.size; simp at this; omega)
      go_ret
      exact ⟨rfl, bl_trans hb (bl_alloc (Below.refl _ _) _)⟩
  · rw [if_pos (.inl ha)]
    have e1 : ((ints.length : Int) != 0) = true := by simp; exact fun h => ha (by rw [h]; rfl)
    clear ha
    go_enter Tryz.func70, Tryz.ntmps70
    go_wp2_with (go_at_call 36; refine (HC.out _).mono ?_; rintro e w1 ⟨rfl, hb⟩; obtain ⟨hc, hf⟩ := bcell hb; have bz : w.heap.size < w1.heap.size := by have := hb.size; simp at this; omega)
    go_ret
    exact ⟨rfl, bl_trans hb (bl_alloc (Below.refl _ _) _)⟩

theorem items_any (h1 : Rd Ly.i64 w ok A1 shape.length shape) (h2 : Rd Ly.i64 w ok A2 ints.length ints) (h3 : Rd lDec w ok A3 decs.length decs) (hi : I64s ints) (hd : DecsOk decs) :
    Calls Tryz.prog 70 #[nodeW kind shape ints decs A1 A2 A3 c1 c2 c3] w fun e w' => e = .returned (.int .i64 (itemsN ⟨kind, shape, ints, decs⟩)) ∧ Below w.heap.size w w' := by
  unfold itemsN
  by_cases hs : (countS shape).2 = false
  · rw [if_pos hs]
    exact items_shape kind shape ints decs A1 A2 A3 c1 c2 c3 ok w h1 hs
  · rw [if_neg hs]
    have hs' : countS shape = ((countS shape).1, true) := by rw [← (by simpa using hs : (countS shape).2 = true)]
    by_cases k1 : kind = 1 ∨ kind = 2 ∨ kind = 3
    · simp only [if_pos k1]
      exact items_num kind shape ints decs A1 A2 A3 c1 c2 c3 ok w h1 h2 h3 hi hd _ hs' k1
    · simp only [if_neg k1]
      by_cases k2 : kind = 4
      · subst k2
        rw [if_pos rfl]
        exact items_dec shape ints decs A1 A2 A3 c1 c2 c3 ok w h1 h2 h3 hi hd _ hs'
      · rw [if_neg k2]
        by_cases k3 : kind = 5
        · subst k3
          rw [if_pos rfl]
          exact items_nest shape ints decs A1 A2 A3 c1 c2 c3 ok w h1 h2 h3 hi hd _ hs'
        · rw [if_neg k3]
          exact items_kind kind shape ints decs A1 A2 A3 c1 c2 c3 ok w h1 (by omega)
end
end Go.Proofs.T
namespace Go.Proofs.T
open Go.RowKit
theorem own_take {w : World} {base n m c size : Nat} {e : TypeId} {A : Option Addr} {xs : List Value} (h : w.ownsRow base e size (.slice A n c) n xs) (hm : m ≤ n) : w.ownsRow base e size (.slice A m c) m (xs.take (m * size)) := by
  obtain ⟨h1, h2⟩ := h
  refine ⟨by rw [List.length_take, h1]; exact Nat.min_eq_left (Nat.mul_le_mul_right _ hm), ?_⟩
  rcases h2 with ⟨he, h0⟩ | ⟨g, cap, cur, he, hb, hh, hnc, hcm, hcs, ht⟩
  · injection he with ha _ hc
    subst ha; subst hc
    exact .inl ⟨by rw [show m = 0 by omega], by omega⟩
  · injection he with ha _ hc
    subst ha; subst hc
    refine .inr ⟨g, c, cur, rfl, hb, hh, by omega, hcm, hcs, ?_⟩
    rw [← ht, List.take_take, Nat.min_eq_left (Nat.mul_le_mul_right _ hm)]
theorem own_base {w : World} {base : Nat} {e : TypeId} {size n : Nat} {v : Value} {xs : List Value} (h : w.ownsRow base e size v n xs) (k : Nat) (hk : v.ownBlock = some k) : base ≤ k := (h.lt k hk).1
/-- What is owned stays so, where another row, or none, is written. -/
theorem own_below {w w1 : World} {base : Nat} {e : TypeId} {size n : Nat} {v : Value} {xs : List Value} (h : w.ownsRow base e size v n xs) (hb : Below w.heap.size w w1) : w1.ownsRow base e size v n xs :=
  h.kept (row := none) ⟨hb.os, hb.tape, hb.output, hb.size, fun i hi _ => hb.block i hi⟩ (by cases v.ownBlock <;> simp)
section
variable {P : Program} {ops : Array Oper} {rest : List Oper} {o : Oper} {a : Act} {Q : Exit → Act → World → Prop}
/-- append(v, y): y's cells lie in a new block. -/
theorem app_one {w0 W : World} (base : Nat) (hgd : o.guard = none) (s x : Operand) (t e : TypeId) (z : Value) (size bytes : Nat)
    (ho : o.op = .call { callee := .builtin .append, args := #[s, x], argTypes := #[t, t] })
    (ht : P.underlying t = some (.slice e)) (hinfo : (P.info? e).map (fun i => (i.zero, i.size, i.bytes)) = some (some z, size, bytes)) (hz : z.cells.size = size) (hs0 : 0 < size)
    (v : Value) (n : Nat) (xs ys : List Value) (hys : ys.length = size) (hs : a.eval s = v) (hx : a.eval x = .slice (some ⟨W.heap.size, 0, none⟩) 1 1) (h1 : ∀ u ∈ ys, u.oneCell' = true)
    (HO : W.ownsRow base e size v n xs) (HB : Below base w0 W) (hbase : base ≤ W.heap.size) (hn : n + 1 ≤ maxLen) (hl : (n + 1) * bytes ≤ 140737488355328)
    (h : ∀ v1 w1, w1.ownsRow base e size v1 (n + 1) (xs ++ ys) → Below base w0 w1 → W.grownBy w1 v.ownBlock → (v1.ownBlock = v.ownBlock ∨ ∃ b, v1.ownBlock = some b ∧ W.heap.size ≤ b) → wpList P ops Q rest (a.put o.dst v1) w1) :
    wpList P ops Q (o :: rest) a (W.alloc (.cells ys.toArray e)) := by
  obtain ⟨i0, hi, hzz⟩ := Option.map_eq_some_iff.1 hinfo
  simp only [Prod.mk.injEq] at hzz
  obtain ⟨hz0, hz1, hz2⟩ := hzz
  refine wpList_append_own_at (W.alloc (.cells ys.toArray e)) hgd s x t ho base e i0 z size bytes ht hi hz0 hz1 hz2 hz hs0 v n xs hs (HO.alloc _) ⟨W.heap.size, 0, none⟩ 1 1 ys hx (by omega)
    (World.news_of_block (cs := ys.toArray) (t := e) (fr := (0, 0)) (heap_alloc_new W _)) h1 hn hl (by simp; omega) ?_
  intro v1 w1 hown hg _ hat
  refine h v1 w1 hown ((HB.alloc hbase _).grown hg (by simp; omega) (own_base HO)) (World.grownBy.trans (World.grownBy_alloc W _ _) hg) ?_
  rcases hat with hat | hat
  · exact .inl hat
  · exact .inr ⟨_, hat, by simp⟩
end
/-- A node's cells. -/
theorem Rd.at4 {w : World} {ok : Nat → Prop} {b o n : Nat} {xs : List Node} (h : Rd lNode w ok (some ⟨b, o, none⟩) n xs) (k : Nat) (hk : k < xs.length) :
    ∃ A1 c1 A2 c2 A3 c3, w.cell? ⟨b, o + k * 4, none⟩ = some (.int .i64 xs[k].kind) ∧ w.cell? ⟨b, o + k * 4 + 1, none⟩ = some (.slice A1 xs[k].shape.length c1) ∧ w.cell? ⟨b, o + k * 4 + 2, none⟩ = some (.slice A2 xs[k].ints.length c2) ∧ w.cell? ⟨b, o + k * 4 + 3, none⟩ = some (.slice A3 xs[k].decs.length c3) ∧
      Rd Ly.i64 w ok A1 xs[k].shape.length xs[k].shape ∧ Rd Ly.i64 w ok A2 xs[k].ints.length xs[k].ints ∧ Rd lDec w ok A3 xs[k].decs.length xs[k].decs ∧ xs[k].shape.length ≤ c1 ∧ xs[k].ints.length ≤ c2 ∧ xs[k].decs.length ≤ c3 := by
  have hl := h.len
  obtain ⟨b', o', e, _, hr⟩ := h.row (by omega)
  injection e with e; injection e with e1 e2; subst e1; subst e2
  obtain ⟨cs, ⟨_, _, rfl, rfl, _, _, rfl, ⟨A1, c1, rfl, l1, r1⟩, _, _, rfl, ⟨A2, c2, rfl, l2, r2⟩, A3, c3, rfl, l3, r3⟩, hc⟩ := hr k xs[k] (by simp)
  exact ⟨A1, c1, A2, c2, A3, c3, hc 0 _ rfl, hc 1 _ rfl, hc 2 _ rfl, hc 3 _ rfl, r1, r2, r3, l1, l2, l3⟩
theorem info3 : (Tryz.prog.info? 3).map (fun i => (i.zero, i.size, i.bytes)) = some (some (.int .i64 0), 1, 8) := by kernel_rfl
end Go.Proofs.T
namespace Go.Proofs.T
open Go.RowKit
/-! array.walk; the numbers of what is still to come stand with the innermost first -/
def dec1 : List Int → List Int
  | [] => []
  | x :: r => (x - 1) :: r
def popN : Nat → List Int → List Int
  | 0, s => s
  | _ + 1, [] => []
  | n + 1, x :: r => if x = 0 then popN n (dec1 r) else x :: r
def popZ (s : List Int) : List Int := popN s.length s
def walkL : List Node → Int → Int → Int → List Int → Int × Int × Int
  | [], _, _, _, _ => (0, 0, 0)
  | n :: rest, k, all, deep, left =>
    if itemsN n < 0 then (0, 0, 0) else if 1048576 < all + itemsN n then (0, 0, 0) else if 16 ≤ left.length then (0, 0, 0) else
    let left1 := if n.kind = 5 then itemsN n :: left else dec1 left
    if popZ left1 = [] then (k + 1, all + itemsN n, max deep (left.length + 1)) else walkL rest (k + 1) (all + itemsN n) (max deep (left.length + 1)) (popZ left1)

theorem countL_bd : ∀ (l : List Int) (q : Int), 0 ≤ q → q ≤ 1048576 → 0 ≤ (countL l q).1 ∧ (countL l q).1 ≤ 1048576
  | [], q, h0, h1 => ⟨h0, h1⟩
  | k :: r, q, h0, h1 => by
    unfold countL
    split
    · simp
    · rename_i h
      have h2 := wrongN_iff.1 (by simpa using h : wrongN (q * k) = false)
      exact countL_bd r _ h2.1 h2.2
theorem countS_bd (s : List Int) : 0 ≤ (countS s).1 ∧ (countS s).1 ≤ 1048576 := by
  unfold countS
  split
  · simp
  · split
    · simp
    · split
      · simp
      · exact countL_bd s 1 (by omega) (by omega)
theorem itemsN_bd (n : Node) : -1 ≤ itemsN n ∧ itemsN n ≤ 1048576 := by
  have h := countS_bd n.shape
  unfold itemsN
  simp only
  repeat' split
  all_goals omega

theorem dec1_len (s : List Int) : (dec1 s).length = s.length := by cases s <;> rfl
theorem popN_le : ∀ (n : Nat) (s : List Int), (popN n s).length ≤ s.length
  | 0, s => Nat.le_refl _
  | _ + 1, [] => Nat.le_refl _
  | n + 1, x :: r => by
    unfold popN
    split
    · have := popN_le n (dec1 r)
      rw [dec1_len] at this
      rw [List.length_cons]
      omega
    · exact Nat.le_refl _
/-- The numbers are right: the innermost may be 0. -/
def LeftOk (s : List Int) : Prop := ∀ x r, s = x :: r → 0 ≤ x ∧ x ≤ 1048576 ∧ ∀ y ∈ r, 1 ≤ y ∧ y ≤ 1048576
def LeftPos (s : List Int) : Prop := ∀ y ∈ s, 1 ≤ y ∧ y ≤ 1048576
theorem LeftPos.dec {s : List Int} (h : LeftPos s) : LeftOk (dec1 s) := by
  rintro x r e
  cases s with
  | nil => cases e
  | cons a t =>
    injection e with e1 e2
    subst e1; subst e2
    have := h a List.mem_cons_self
    exact ⟨by omega, by omega, fun y hy => h y (List.mem_cons_of_mem _ hy)⟩
theorem LeftPos.push {s : List Int} (h : LeftPos s) {k : Int} (h0 : 0 ≤ k) (h1 : k ≤ 1048576) : LeftOk (k :: s) := by
  rintro x r e
  injection e with e1 e2
  subst e1; subst e2
  exact ⟨h0, h1, h⟩
theorem LeftOk.dec {r : List Int} (h : LeftOk (0 :: r)) : LeftOk (dec1 r) := LeftPos.dec (h 0 r rfl).2.2
theorem popN_pos : ∀ (n : Nat) (s : List Int), s.length ≤ n → LeftOk s → LeftPos (popN n s)
  | 0, s, hn, _ => by
    obtain rfl : s = [] := List.eq_nil_of_length_eq_zero (by omega)
    intro y hy; cases hy
  | _ + 1, [], _, _ => by intro y hy; cases hy
  | n + 1, x :: r, hn, h => by
    unfold popN
    split
    · rename_i h0
      subst h0
      exact popN_pos n (dec1 r) (by rw [dec1_len]; rw [List.length_cons] at hn; omega) h.dec
    · have := h x r rfl
      intro y hy
      rcases List.mem_cons.1 hy with rfl | hy
      · omega
      · exact this.2.2 y hy
theorem popN_more : ∀ (n m : Nat) (s : List Int), s.length ≤ n → s.length ≤ m → popN n s = popN m s
  | 0, m, s, hn, _ => by
    obtain rfl : s = [] := List.eq_nil_of_length_eq_zero (by omega)
    cases m <;> rfl
  | n + 1, m, [], _, _ => by cases m <;> rfl
  | n + 1, 0, x :: r, _, hm => by simp at hm
  | n + 1, m + 1, x :: r, hn, hm => by
    unfold popN
    split
    · exact popN_more n m _ (by rw [dec1_len]; rw [List.length_cons] at hn; omega) (by rw [dec1_len]; rw [List.length_cons] at hm; omega)
    · rfl
theorem popZ_zero (r : List Int) : popZ (0 :: r) = popZ (dec1 r) := by
  unfold popZ
  rw [List.length_cons, popN, if_pos rfl]
  exact popN_more _ _ _ (by rw [dec1_len]; exact Nat.le_refl _) (Nat.le_refl _)
theorem popZ_stop {x : Int} (r : List Int) (h : x ≠ 0) : popZ (x :: r) = x :: r := by
  unfold popZ
  rw [List.length_cons, popN, if_neg h]
theorem popZ_pos {s : List Int} (h : LeftOk s) : LeftPos (popZ s) := popN_pos _ _ (Nat.le_refl _) h

def rowI (s : List Int) : List Value := s.reverse.map (Value.int .i64)
theorem rowI_len (s : List Int) : (rowI s).length = s.length := by simp [rowI]
theorem rowI_push (s : List Int) (x : Int) : rowI s ++ [.int .i64 x] = rowI (x :: s) := by simp [rowI]
theorem rowI_top (x : Int) (r : List Int) : (rowI (x :: r))[r.length]? = some (.int .i64 x) := by simp [rowI]
theorem rowI_set (x y : Int) (r : List Int) : (rowI (x :: r)).set r.length (.int .i64 y) = rowI (y :: r) := by simp [rowI]
theorem rowI_take (x : Int) (r : List Int) : (rowI (x :: r)).take (r.length * 1) = rowI r := by simp [rowI]
end Go.Proofs.T
namespace Go.Proofs.T
open Go.RowKit
theorem walkL_cons (n : Node) (rest : List Node) (k all deep : Int) (left : List Int) : walkL (n :: rest) k all deep left =
    if itemsN n < 0 then (0, 0, 0) else if 1048576 < all + itemsN n then (0, 0, 0) else if 16 ≤ left.length then (0, 0, 0) else
    if popZ (if n.kind = 5 then itemsN n :: left else dec1 left) = [] then (k + 1, all + itemsN n, max deep (left.length + 1)) else walkL rest (k + 1) (all + itemsN n) (max deep (left.length + 1)) (popZ (if n.kind = 5 then itemsN n :: left else dec1 left)) := rfl
theorem own_cap {w : World} {base n size g cap : Nat} {e : TypeId} {xs : List Value} (h : w.ownsRow base e size (.slice (some ⟨g, 0, none⟩) n cap) n xs) : n ≤ cap := by
  rcases h.2 with ⟨h', _⟩ | ⟨g', cap', cur, h', _, _, hn, _⟩
  · simp at h'
  · simp only [Value.slice.injEq] at h'
    omega
theorem one_int {k : IntKind} (x : Int) : ∀ u ∈ [Value.int k x], u.oneCell' = true := fun u hu => by rw [List.mem_singleton.1 hu]; rfl
def NodesOk (l : List Node) : Prop := ∀ n ∈ l, NodeOk n
set_option maxHeartbeats 4000000 in
set_option maxRecDepth 100000 in
theorem walk_some (b o c : Nat) (xs : List Node) (ok : Nat → Prop) (w : World) (h : Rd lNode w ok (some ⟨b, o, none⟩) xs.length xs) (hx : NodesOk xs) (hlen : xs.length ≤ 1000000000) :
    Calls Tryz.prog 49 #[.slice (some ⟨b, o, none⟩) xs.length c] w fun e w' => e = .returned (.tuple #[.int .i64 (walkL xs 0 0 0 []).1, .int .i64 (walkL xs 0 0 0 []).2.1, .int .i64 (walkL xs 0 0 0 []).2.2]) ∧ Below w.heap.size w w' := by
  have hm := h.max
  have HR := Lib.hid h; have HX := Lib.hid hx; clear h hx
  go_enter Tryz.func49, Tryz.ntmps49
  go_wp2
  go_loopg [3, 4, 5, 6, 7, 8, 11] xs.length (fun gg s3 s4 s5 _ _ _ i wr => ∃ (k : Nat) (all deep : Int) (st : List Int) (v : Value), v = s5 ∧ k ≤ xs.length ∧ gg = xs.length - k ∧ s3 = .int .i64 all ∧ s4 = .int .i64 deep ∧ i = .int .i64 k ∧
    0 ≤ all ∧ all ≤ 1048576 ∧ 0 ≤ deep ∧ deep ≤ 17 ∧ st.length ≤ 16 ∧ wr.ownsRow w.heap.size 3 1 v st.length (rowI st) ∧ Below w.heap.size w wr ∧ Hid (LeftPos st ∧ walkL (xs.drop k) k all deep st = walkL xs 0 0 0 []))
  case atStart => exact ⟨0, 0, 0, [], _, rfl, by omega, by omega, rfl, rfl, rfl, by omega, by omega, by omega, by omega, by simp, World.ownsRow_nil _ _ _ _, Below.refl _ _, ⟨(by intro y hy; cases hy), rfl⟩⟩
  case round =>
    obtain ⟨k, all, deep, st, v, rfl, hk, rfl, rfl, rfl, rfl, ha0, ha1, hd0, hd1, hst, hown, hb, H⟩ := hrel
    by_cases hlt : k < xs.length
    · obtain ⟨A1, c1, A2, c2, A3, c3, q0, q1, q2, q3, r1, r2, r3, _, _, _⟩ := (HR.out.below (by decide) hb).at4 k hlt
      have hox := HX.out xs[k] (List.getElem_mem hlt)
      have hd : Hid (xs.drop k = xs[k] :: xs.drop (k + 1)) := List.drop_eq_getElem_cons hlt
      generalize xs[k] = x at q0 q1 q2 q3 r1 r2 r3 hox hd
      have hit := fun q => items_any x.kind x.shape x.ints x.decs A1 A2 A3 c1 c2 c3 ok (wr.alloc q) (r1.alloc (by decide) q) (r2.alloc (by decide) q) (r3.alloc (by decide) q) hox.ints hox.decs
      have hib := itemsN_bd x
      have hwalk := walkL_cons x (xs.drop (k + 1)) k all deep st
      rw [← hd.out, H.out.2] at hwalk
      generalize itemsN x = cnt at hit hib hwalk
      have HI := Lib.hid hit
      have HW := Lib.hid hwalk
      clear hit r1 r2 r3 hox hwalk
      by_cases g1 : cnt < 0
      · have HF : Hid (walkL xs 0 0 0 [] = (0, 0, 0)) := by have := HW.out; rw [if_pos g1] at this; exact this
        go_wp2_with (go_at_call 70; refine (HI.out _).mono ?_; rintro e w1 ⟨rfl, hb1⟩; obtain ⟨hc1, hf1⟩ := bcell hb1; have z1 : wr.heap.size < w1.heap.size := (by have := hb1.size; simp at this; omega))
        go_ret3
        exact ⟨by rw [HF.out]; rfl, bl_trans hb1 (bl_alloc hb _)⟩
      by_cases g2 : 1048576 < all + cnt
      · have HF : Hid (walkL xs 0 0 0 [] = (0, 0, 0)) := by have := HW.out; rw [if_neg g1, if_pos g2] at this; exact this
        go_wp2_with (go_at_call 70; refine (HI.out _).mono ?_; rintro e w1 ⟨rfl, hb1⟩; obtain ⟨hc1, hf1⟩ := bcell hb1; have z1 : wr.heap.size < w1.heap.size := (by have := hb1.size; simp at this; omega))
        go_ret3
        exact ⟨by rw [HF.out]; rfl, bl_trans hb1 (bl_alloc hb _)⟩
      by_cases g3 : 16 ≤ st.length
      · have HF : Hid (walkL xs 0 0 0 [] = (0, 0, 0)) := by have := HW.out; rw [if_neg g1, if_neg g2, if_pos g3] at this; exact this
        obtain ⟨g, cap, rfl, _, _⟩ := hown.form (by omega)
        go_wp2_with (go_at_call 70; refine (HI.out _).mono ?_; rintro e w1 ⟨rfl, hb1⟩; obtain ⟨hc1, hf1⟩ := bcell hb1; have z1 : wr.heap.size < w1.heap.size := (by have := hb1.size; simp at this; omega))
        go_ret3
        exact ⟨by rw [HF.out]; rfl, bl_trans hb1 (bl_alloc hb _)⟩
      have HW2 := Lib.hid (by have := HW.out; rw [if_neg g1, if_neg g2, if_neg g3] at this; exact this)
      clear HW
      have hmx : max deep ((st.length : Int) + 1) ≤ 17 ∧ 0 ≤ max deep ((st.length : Int) + 1) := by omega
      by_cases g5 : x.kind = 5
      · have k5 : (x.kind == 5) = true := by simpa using g5
        have HW3 := Lib.hid (by have := HW2.out; simp only [if_pos g5] at this; exact this)
        clear HW2 g5
        obtain ⟨A0, c0, rfl⟩ : ∃ A0 c0, v = .slice A0 st.length c0 := by
          rcases hown.2 with ⟨rfl, h0⟩ | ⟨g, cap, cur, rfl, _⟩
          · exact ⟨none, 0, by rw [h0]⟩
          · exact ⟨_, _, rfl⟩
        go_wp2_with (first | (go_at_call 70; refine (HI.out _).mono ?_; rintro e w1 ⟨rfl, hb1⟩; obtain ⟨hc1, hf1⟩ := bcell hb1; have z1 : wr.heap.size < w1.heap.size := (by have := hb1.size; simp at this; omega)) | (at_builtin; refine app_one (w0 := w) w.heap.size rfl (.tmp 40) (.tmp 42) 25 3 (.int .i64 0) 1 8 rfl Tryz.underlying25 info3 rfl (by decide) _ st.length (rowI st) [.int .i64 cnt] rfl rfl rfl (one_int _) (own_below (hown.alloc _) hb1) (bl_trans hb1 (bl_alloc hb _)) (bl_trans hb1 (bl_alloc hb _)).size (by simp only [maxLen]; omega) (by omega) ?_; rw [rowI_push]; intro v1 w2 hown2 hb2 hg2 _))
        obtain ⟨S1, hS1⟩ : ∃ S1, S1 = cnt :: st := ⟨_, rfl⟩
        have hS16 : S1.length ≤ 16 := by rw [hS1]; simp; omega
        have HL : Hid (st.length + 1 = S1.length) := by rw [hS1]; rfl
        have HS : Hid (LeftOk S1) := by rw [hS1]; exact H.out.1.push (by omega) (by omega)
        rw [← hS1] at hown2
        replace hown2 : w2.ownsRow w.heap.size 3 1 v1 S1.length (rowI S1) := by rw [HL.out] at hown2; exact hown2
        replace HW3 : Hid ((if popZ S1 = [] then ((k : Int) + 1, all + cnt, max deep ((st.length : Int) + 1)) else walkL (xs.drop (k + 1)) ((k : Int) + 1) (all + cnt) (max deep ((st.length : Int) + 1)) (popZ S1)) = walkL xs 0 0 0 []) := by rw [hS1]; exact HW3.out.symm
        clear hS1
        go_loopg [5] (S1.length + 1) (fun gg s5 wq => ∃ (sq : List Int) (vq : Value), vq = s5 ∧ gg = sq.length + 1 ∧ sq.length ≤ 16 ∧ wq.ownsRow w.heap.size 3 1 vq sq.length (rowI sq) ∧ Below w.heap.size w wq ∧ Hid (LeftOk sq ∧ popZ sq = popZ S1))
        case atStart => exact ⟨S1, _, rfl, rfl, hS16, hown2, hb2, HS.out, rfl⟩
        case round =>
          obtain ⟨sq, vq, rfl, rfl, hsq, hq, hbq, HQ⟩ := hrel
          clear hb2 hown2
          cases sq with
          | nil =>
            have HF : Hid (walkL xs 0 0 0 [] = ((k : Int) + 1, all + cnt, max deep ((st.length : Int) + 1))) := by
              have e : popZ S1 = [] := by rw [← HQ.out.2]; rfl
              have := HW3.out; rw [if_pos e] at this; exact this.symm
            obtain ⟨A0, c0, rfl⟩ : ∃ A0 c0, vq = .slice A0 0 c0 := by
              rcases hq.2 with ⟨rfl, h0⟩ | ⟨g, cap, cur, rfl, _⟩
              · exact ⟨none, 0, rfl⟩
              · exact ⟨_, _, rfl⟩
            go_wp2
            go_ret3
            exact ⟨by rw [HF.out]; rfl, hbq⟩
          | cons y r =>
            simp only [List.length_cons] at hq hsq
            obtain ⟨g, cap, rfl, hgb, hgl⟩ := hq.form (by omega)
            have hcp := own_cap hq
            have hct := hq.cellAt r.length (by omega)
            rw [rowI_top] at hct
            have hyb := HQ.out.1 y r rfl
            by_cases hy : y = 0
            · subst hy
              have hr2 : Hid (LeftOk (dec1 r) ∧ popZ (dec1 r) = popZ S1) := ⟨HQ.out.1.dec, by rw [← HQ.out.2, popZ_zero]⟩
              have hcut := own_take hq (show r.length ≤ r.length + 1 by omega)
              rw [rowI_take] at hcut
              clear hyb HQ
              cases r with
              | nil =>
                simp only [List.length_nil, Nat.zero_add] at hq hct hcut hcp
                have HC := Lib.hid hcut; clear hcut
                go_wp2
                go_roundg 1
                case measure => simp
                case rel => exact ⟨[], _, rfl, rfl, by simp, HC.out, hbq, hr2.out⟩
              | cons y2 r2 =>
                simp only [List.length_cons] at hq hsq hct hcut hcp
                have hyp := (hr2.out.1 (y2 - 1) r2 rfl)
                have hct2 := hcut.cellAt r2.length (by omega)
                rw [rowI_top] at hct2
                have hfz := hcut.frozenAt r2.length
                have hst2 := (hcut.stored r2.length (.int .i64 (y2 - 1))).1
                rw [rowI_set] at hst2
                have HC := Lib.hid hst2; clear hst2 hcut hq
                go_wp2
                go_roundg (r2.length + 2)
                case measure => simp
                case rel => exact ⟨(y2 - 1) :: r2, _, rfl, rfl, by simp; omega, HC.out, bl_set hbq hgb _, hr2.out⟩
            · have hy0 : (y == 0) = false := by simpa using hy
              have e : popZ S1 = y :: r := by rw [← HQ.out.2, popZ_stop r hy]
              have HF : Hid (LeftPos (y :: r) ∧ walkL (xs.drop (k + 1)) ((k : Int) + 1) (all + cnt) (max deep ((st.length : Int) + 1)) (y :: r) = walkL xs 0 0 0 []) := by
                have := HW3.out; rw [e, if_neg (by simp)] at this
                exact ⟨by rw [← e, ← HQ.out.2]; exact popZ_pos HQ.out.1, this⟩
              clear hy e hyb
              go_wp2
              go_roundg (xs.length - (k + 1))
              case measure => omega
              case rel => exact ⟨k + 1, all + cnt, _, y :: r, _, rfl, by omega, rfl, rfl, rfl, by go_num, by omega, by omega, by omega, by omega, by simp; omega, hq, hbq, HF.out.1, by rw [← HF.out.2]; rfl⟩
      · have k5 : (x.kind == 5) = false := by simpa using g5
        obtain ⟨S1, hS1⟩ : ∃ S1, S1 = dec1 st := ⟨_, rfl⟩
        have HW3 : Hid ((if popZ S1 = [] then ((k : Int) + 1, all + cnt, max deep ((st.length : Int) + 1)) else walkL (xs.drop (k + 1)) ((k : Int) + 1) (all + cnt) (max deep ((st.length : Int) + 1)) (popZ S1)) = walkL xs 0 0 0 []) := by
          have := HW2.out; simp only [if_neg g5] at this; rw [hS1]; exact this.symm
        have HS : Hid (LeftOk S1) := by rw [hS1]; exact H.out.1.dec
        have hS16 : S1.length ≤ 16 := by rw [hS1, dec1_len]; exact hst
        clear HW2 g5
        by_cases hst0 : st.length = 0
        · have hS0 : Hid (S1 = st) := by rw [hS1, List.eq_nil_of_length_eq_zero hst0]; rfl
          have hst1 : st.length < 1 := by omega
          have hdz : decide (0 < st.length) = false := decide_eq_false (by omega)
          clear hS1 hst0
          obtain ⟨A0, c0, rfl⟩ : ∃ A0 c0, v = .slice A0 st.length c0 := by
            rcases hown.2 with ⟨rfl, h0⟩ | ⟨g, cap, cur, rfl, _⟩
            · exact ⟨none, 0, by rw [h0]⟩
            · exact ⟨_, _, rfl⟩
          go_wp2_with (go_at_call 70; refine (HI.out _).mono ?_; rintro e w1 ⟨rfl, hb1⟩; obtain ⟨hc1, hf1⟩ := bcell hb1; have z1 : wr.heap.size < w1.heap.size := (by have := hb1.size; simp at this; omega))
          have hown2 : w1.ownsRow w.heap.size 3 1 (.slice A0 st.length c0) S1.length (rowI S1) := by rw [hS0.out]; exact own_below (hown.alloc _) hb1
          have hb2 := bl_trans hb1 (bl_alloc hb _)
          go_loopg [5] (S1.length + 1) (fun gg s5 wq => ∃ (sq : List Int) (vq : Value), vq = s5 ∧ gg = sq.length + 1 ∧ sq.length ≤ 16 ∧ wq.ownsRow w.heap.size 3 1 vq sq.length (rowI sq) ∧ Below w.heap.size w wq ∧ Hid (LeftOk sq ∧ popZ sq = popZ S1))
          case atStart => exact ⟨S1, _, rfl, rfl, hS16, hown2, hb2, HS.out, rfl⟩
          case round =>
            obtain ⟨sq, vq, rfl, rfl, hsq, hq, hbq, HQ⟩ := hrel
            clear hb2 hown2
            cases sq with
            | nil =>
              have HF : Hid (walkL xs 0 0 0 [] = ((k : Int) + 1, all + cnt, max deep ((st.length : Int) + 1))) := by
                have e : popZ S1 = [] := by rw [← HQ.out.2]; rfl
                have := HW3.out; rw [if_pos e] at this; exact this.symm
              obtain ⟨A0, c0, rfl⟩ : ∃ A0 c0, vq = .slice A0 0 c0 := by
                rcases hq.2 with ⟨rfl, h0⟩ | ⟨g, cap, cur, rfl, _⟩
                · exact ⟨none, 0, rfl⟩
                · exact ⟨_, _, rfl⟩
              go_wp2
              go_ret3
              exact ⟨by rw [HF.out]; rfl, hbq⟩
            | cons y r =>
              simp only [List.length_cons] at hq hsq
              obtain ⟨g, cap, rfl, hgb, hgl⟩ := hq.form (by omega)
              have hcp := own_cap hq
              have hct := hq.cellAt r.length (by omega)
              rw [rowI_top] at hct
              have hyb := HQ.out.1 y r rfl
              by_cases hy : y = 0
              · subst hy
                have hr2 : Hid (LeftOk (dec1 r) ∧ popZ (dec1 r) = popZ S1) := ⟨HQ.out.1.dec, by rw [← HQ.out.2, popZ_zero]⟩
                have hcut := own_take hq (show r.length ≤ r.length + 1 by omega)
                rw [rowI_take] at hcut
                clear hyb HQ
                cases r with
                | nil =>
                  simp only [List.length_nil, Nat.zero_add] at hq hct hcut hcp
                  have HC := Lib.hid hcut; clear hcut
                  go_wp2
                  go_roundg 1
                  case measure => simp
                  case rel => exact ⟨[], _, rfl, rfl, by simp, HC.out, hbq, hr2.out⟩
                | cons y2 r2 =>
                  simp only [List.length_cons] at hq hsq hct hcut hcp
                  have hyp := (hr2.out.1 (y2 - 1) r2 rfl)
                  have hct2 := hcut.cellAt r2.length (by omega)
                  rw [rowI_top] at hct2
                  have hfz := hcut.frozenAt r2.length
                  have hst2 := (hcut.stored r2.length (.int .i64 (y2 - 1))).1
                  rw [rowI_set] at hst2
                  have HC := Lib.hid hst2; clear hst2 hcut hq
                  go_wp2
                  go_roundg (r2.length + 2)
                  case measure => simp
                  case rel => exact ⟨(y2 - 1) :: r2, _, rfl, rfl, by simp; omega, HC.out, bl_set hbq hgb _, hr2.out⟩
              · have hy0 : (y == 0) = false := by simpa using hy
                have e : popZ S1 = y :: r := by rw [← HQ.out.2, popZ_stop r hy]
                have HF : Hid (LeftPos (y :: r) ∧ walkL (xs.drop (k + 1)) ((k : Int) + 1) (all + cnt) (max deep ((st.length : Int) + 1)) (y :: r) = walkL xs 0 0 0 []) := by
                  have := HW3.out; rw [e, if_neg (by simp)] at this
                  exact ⟨by rw [← e, ← HQ.out.2]; exact popZ_pos HQ.out.1, this⟩
                clear hy e hyb
                go_wp2
                go_roundg (xs.length - (k + 1))
                case measure => omega
                case rel => exact ⟨k + 1, all + cnt, _, y :: r, _, rfl, by omega, rfl, rfl, rfl, by go_num, by omega, by omega, by omega, by omega, by simp; omega, hq, hbq, HF.out.1, by rw [← HF.out.2]; rfl⟩
        · obtain ⟨y0, r0, hyr⟩ : ∃ y0 r0, st = y0 :: r0 := by
            cases st with
            | nil => exact absurd rfl hst0
            | cons y0 r0 => exact ⟨y0, r0, rfl⟩
          have hlr : Hid (st.length - 1 = r0.length) := by rw [hyr]; rfl
          have hyq := H.out.1 y0 (by rw [hyr]; exact List.mem_cons_self)
          obtain ⟨g0, cap0, rfl, hgb0, hgl0⟩ := hown.form (by omega)
          have HO1 : Hid (∀ q w1, Below (wr.alloc q).heap.size (wr.alloc q) w1 → w1.ownsRow w.heap.size 3 1 (.slice (some ⟨g0, 0, none⟩) st.length cap0) st.length (rowI st)) := fun q w1 hb1 => own_below (hown.alloc q) hb1
          have HE : Hid (st = y0 :: r0 ∧ S1 = (y0 - 1) :: r0) := ⟨hyr, by rw [hS1, hyr]; rfl⟩
          have hst1 : 0 < st.length := by omega
          have hct0 := hown.cellAt (st.length - 1) (by omega)
          rw [show (rowI st)[st.length - 1]? = some (.int .i64 y0) by rw [hlr.out, hyr, rowI_top]] at hct0
          have hfz0 := hown.frozenAt (st.length - 1)
          have hdz : decide ((0 : Int) < (st.length : Int)) = true := decide_eq_true (by omega)
          clear hS1 hst0 hyr
          go_wp2_with (go_at_call 70; refine (HI.out _).mono ?_; rintro e w1 ⟨rfl, hb1⟩; obtain ⟨hc1, hf1⟩ := bcell hb1; have z1 : wr.heap.size < w1.heap.size := (by have := hb1.size; simp at this; omega))
          have hown2 := ((HO1.out _ w1 hb1).stored (st.length - 1) (.int .i64 (y0 - 1))).1
          replace hown2 : (w1.setCell ⟨g0, st.length - 1, none⟩ (.int .i64 (y0 - 1))).ownsRow w.heap.size 3 1 (.slice (some ⟨g0, 0, none⟩) st.length cap0) S1.length (rowI S1) := by
            have e1 : S1.length = st.length := by rw [HE.out.1, HE.out.2]; rfl
            have e2 : rowI S1 = (rowI st).set (st.length - 1) (.int .i64 (y0 - 1)) := by rw [hlr.out, HE.out.1, HE.out.2, rowI_set]
            rw [e1, e2]; exact hown2
          have hb2 := bl_set (bl_trans hb1 (bl_alloc hb _)) hgb0 (.int .i64 (y0 - 1)) (p := ⟨g0, st.length - 1, none⟩)
          go_loopg [5] (S1.length + 1) (fun gg s5 wq => ∃ (sq : List Int) (vq : Value), vq = s5 ∧ gg = sq.length + 1 ∧ sq.length ≤ 16 ∧ wq.ownsRow w.heap.size 3 1 vq sq.length (rowI sq) ∧ Below w.heap.size w wq ∧ Hid (LeftOk sq ∧ popZ sq = popZ S1))
          case atStart => exact ⟨S1, _, rfl, rfl, hS16, hown2, hb2, HS.out, rfl⟩
          case round =>
            obtain ⟨sq, vq, rfl, rfl, hsq, hq, hbq, HQ⟩ := hrel
            clear hb2 hown2
            cases sq with
            | nil =>
              have HF : Hid (walkL xs 0 0 0 [] = ((k : Int) + 1, all + cnt, max deep ((st.length : Int) + 1))) := by
                have e : popZ S1 = [] := by rw [← HQ.out.2]; rfl
                have := HW3.out; rw [if_pos e] at this; exact this.symm
              obtain ⟨A0, c0, rfl⟩ : ∃ A0 c0, vq = .slice A0 0 c0 := by
                rcases hq.2 with ⟨rfl, h0⟩ | ⟨g, cap, cur, rfl, _⟩
                · exact ⟨none, 0, rfl⟩
                · exact ⟨_, _, rfl⟩
              go_wp2
              go_ret3
              exact ⟨by rw [HF.out]; rfl, hbq⟩
            | cons y r =>
              simp only [List.length_cons] at hq hsq
              obtain ⟨g, cap, rfl, hgb, hgl⟩ := hq.form (by omega)
              have hcp := own_cap hq
              have hct := hq.cellAt r.length (by omega)
              rw [rowI_top] at hct
              have hyb := HQ.out.1 y r rfl
              by_cases hy : y = 0
              · subst hy
                have hr2 : Hid (LeftOk (dec1 r) ∧ popZ (dec1 r) = popZ S1) := ⟨HQ.out.1.dec, by rw [← HQ.out.2, popZ_zero]⟩
                have hcut := own_take hq (show r.length ≤ r.length + 1 by omega)
                rw [rowI_take] at hcut
                clear hyb HQ
                cases r with
                | nil =>
                  simp only [List.length_nil, Nat.zero_add] at hq hct hcut hcp
                  have HC := Lib.hid hcut; clear hcut
                  go_wp2
                  go_roundg 1
                  case measure => simp
                  case rel => exact ⟨[], _, rfl, rfl, by simp, HC.out, hbq, hr2.out⟩
                | cons y2 r2 =>
                  simp only [List.length_cons] at hq hsq hct hcut hcp
                  have hyp := (hr2.out.1 (y2 - 1) r2 rfl)
                  have hct2 := hcut.cellAt r2.length (by omega)
                  rw [rowI_top] at hct2
                  have hfz := hcut.frozenAt r2.length
                  have hst2 := (hcut.stored r2.length (.int .i64 (y2 - 1))).1
                  rw [rowI_set] at hst2
                  have HC := Lib.hid hst2; clear hst2 hcut hq
                  go_wp2
                  go_roundg (r2.length + 2)
                  case measure => simp
                  case rel => exact ⟨(y2 - 1) :: r2, _, rfl, rfl, by simp; omega, HC.out, bl_set hbq hgb _, hr2.out⟩
              · have hy0 : (y == 0) = false := by simpa using hy
                have e : popZ S1 = y :: r := by rw [← HQ.out.2, popZ_stop r hy]
                have HF : Hid (LeftPos (y :: r) ∧ walkL (xs.drop (k + 1)) ((k : Int) + 1) (all + cnt) (max deep ((st.length : Int) + 1)) (y :: r) = walkL xs 0 0 0 []) := by
                  have := HW3.out; rw [e, if_neg (by simp)] at this
                  exact ⟨by rw [← e, ← HQ.out.2]; exact popZ_pos HQ.out.1, this⟩
                clear hy e hyb
                go_wp2
                go_roundg (xs.length - (k + 1))
                case measure => omega
                case rel => exact ⟨k + 1, all + cnt, _, y :: r, _, rfl, by omega, rfl, rfl, rfl, by go_num, by omega, by omega, by omega, by omega, by simp; omega, hq, hbq, HF.out.1, by rw [← HF.out.2]; rfl⟩
    · have hkn : k = xs.length := by omega
      have HF : Hid (walkL xs 0 0 0 [] = (0, 0, 0)) := by rw [← H.out.2, hkn, List.drop_length]; rfl
      clear hkn
      go_wp2
      go_ret3
      exact ⟨by rw [HF.out]; rfl, hb⟩
end Go.Proofs.T
namespace Go.Proofs.T
open Go.RowKit
set_option maxHeartbeats 400000 in
set_option maxRecDepth 100000 in
theorem walk_nil (A : Option Addr) (c : Nat) (w : World) :
    Calls Tryz.prog 49 #[.slice A 0 c] w fun e w' => e = .returned (.tuple #[.int .i64 0, .int .i64 0, .int .i64 0]) ∧ Below w.heap.size w w' := by
  go_enter Tryz.func49, Tryz.ntmps49
  go_wp2
  go_loopg [3, 4, 5, 6, 7, 8, 11] 0 (fun gg s3 s4 s5 _ _ _ i wr => s3 = .int .i64 0 ∧ s4 = .int .i64 0 ∧ i = .int .i64 0 ∧ Below w.heap.size w wr)
  case atStart => exact ⟨rfl, rfl, rfl, Below.refl _ _⟩
  case round =>
    obtain ⟨rfl, rfl, rfl, hb⟩ := hrel
    go_wp2
    go_ret3
    exact ⟨rfl, hb⟩
def walkN (l : List Node) : Int × Int × Int := walkL l 0 0 0 []
theorem walk_any (A : Option Addr) (c : Nat) (xs : List Node) (ok : Nat → Prop) (w : World) (h : Rd lNode w ok A xs.length xs) (hx : NodesOk xs) (hlen : xs.length ≤ 1000000000) :
    Calls Tryz.prog 49 #[.slice A xs.length c] w fun e w' => e = .returned (.tuple #[.int .i64 (walkN xs).1, .int .i64 (walkN xs).2.1, .int .i64 (walkN xs).2.2]) ∧ Below w.heap.size w w' := by
  rcases h.ways with ⟨h0, rfl⟩ | ⟨_, b, o, rfl⟩
  · exact walk_nil A c w
  · exact walk_some b o c xs ok w h hx hlen
def takeN (l : List Node) : Int := (walkN l).1
set_option maxHeartbeats 400000 in
theorem take_any (A : Option Addr) (c : Nat) (xs : List Node) (ok : Nat → Prop) (w : World) (h : Rd lNode w ok A xs.length xs) (hx : NodesOk xs) (hlen : xs.length ≤ 1000000000) :
    Calls Tryz.prog 23 #[.slice A xs.length c] w fun e w' => e = .returned (.int .i64 (takeN xs)) ∧ Below w.heap.size w w' := by
  have hw := walk_any A c xs ok w h hx hlen
  unfold takeN
  generalize walkN xs = p at hw ⊢
  have HW := Lib.hid hw; clear hw h hx hlen
  go_enter Tryz.func23, Tryz.ntmps23
  go_wp2_with (go_at_call 49; refine HW.out.mono ?_; rintro e w1 ⟨rfl, hb⟩)
  go_ret
  exact ⟨rfl, hb⟩
def rightA (l : List Node) : Bool := decide (0 < l.length) && (takeN l == l.length)
set_option maxHeartbeats 400000 in
theorem arrayRight_any (A : Option Addr) (c : Nat) (xs : List Node) (ok : Nat → Prop) (w : World) (h : Rd lNode w ok A xs.length xs) (hx : NodesOk xs) (hlen : xs.length ≤ 1000000000) :
    Calls Tryz.prog 22 #[.slice A xs.length c] w fun e w' => e = .returned (.bool (rightA xs)) ∧ Below w.heap.size w w' := by
  have hw := take_any A c xs ok w h hx hlen
  unfold rightA
  generalize takeN xs = p at hw ⊢
  have HW := Lib.hid hw; clear hw h hx
  by_cases h0 : 0 < xs.length
  · have hd : decide (0 < xs.length) = true := by simpa using h0
    go_enter Tryz.func22, Tryz.ntmps22
    go_wp2_with (go_at_call 23; refine HW.out.mono ?_; rintro e w1 ⟨rfl, hb⟩)
    go_ret
    exact ⟨by simp [h0], hb⟩
  · have hd : decide (0 < xs.length) = false := by simpa using h0
    go_enter Tryz.func22, Tryz.ntmps22
    go_wp2
    go_ret
    exact ⟨by simp [h0], Below.refl _ _⟩
end Go.Proofs.T
namespace Go.Proofs.T
open Go.RowKit
section
variable {α : Type} {L : Ly α} {w w' : World} {ok ok' : Nat → Prop}
/-- The cells of a row's elements, one behind the other. -/
def Parts (L : Ly α) (w : World) (ok : Nat → Prop) : List α → List Value → Prop
  | [], cs => cs = []
  | x :: xs, cs => ∃ c d, cs = c ++ d ∧ L.K w ok x c ∧ Parts L w ok xs d
theorem Parts.len : ∀ {xs : List α} {cs : List Value}, Parts L w ok xs cs → cs.length = xs.length * L.sz
  | [], _, h => by rw [h]; simp
  | x :: xs, _, ⟨c, d, h, h1, h2⟩ => by rw [h, List.length_append, L.len h1, Parts.len h2, List.length_cons, Nat.succ_mul]; omega
theorem Parts.one : ∀ {xs : List α} {cs : List Value}, Parts L w ok xs cs → ∀ u ∈ cs, u.oneCell' = true
  | [], _, h, u, hu => by rw [h] at hu; cases hu
  | x :: xs, _, ⟨c, d, h, h1, h2⟩, u, hu => by rw [h] at hu; exact (List.mem_append.1 hu).elim (L.one h1 u) (Parts.one h2 u)
theorem Parts.move : ∀ {xs : List α} {cs : List Value}, Parts L w ok xs cs → (∀ b, ok b → b < w.heap.size → w'.heap[b]? = w.heap[b]?) → Parts L w' ok xs cs
  | [], _, h, _ => h
  | x :: xs, _, ⟨c, d, h, h1, h2⟩, hm => ⟨c, d, h, L.move h1 hm, Parts.move h2 hm⟩
theorem Parts.mono : ∀ {xs : List α} {cs : List Value}, Parts L w ok xs cs → (∀ b, ok b → b < w.heap.size → ok' b) → Parts L w ok' xs cs
  | [], _, h, _ => h
  | x :: xs, _, ⟨c, d, h, h1, h2⟩, hm => ⟨c, d, h, L.mono h1 hm, Parts.mono h2 hm⟩
theorem Parts.append : ∀ {xs ys : List α} {cs ds : List Value}, Parts L w ok xs cs → Parts L w ok ys ds → Parts L w ok (xs ++ ys) (cs ++ ds)
  | [], _, _, _, h, k => by rw [h]; exact k
  | x :: xs, _, _, _, ⟨c, d, h, h1, h2⟩, k => ⟨c, d ++ _, by rw [h, List.append_assoc], h1, Parts.append h2 k⟩
theorem Parts.single {x : α} {cs : List Value} (h : L.K w ok x cs) : Parts L w ok [x] cs := ⟨cs, [], by simp, h, rfl⟩
theorem Parts.get : ∀ {xs : List α} {cs : List Value}, Parts L w ok xs cs → ∀ i x, xs[i]? = some x → ∃ c, L.K w ok x c ∧ ∀ j u, c[j]? = some u → cs[i * L.sz + j]? = some u
  | [], _, _, i, x, hx => by simp at hx
  | y :: ys, _, ⟨c, d, h, h1, h2⟩, 0, x, hx => by
    obtain rfl : y = x := by simpa using hx
    refine ⟨c, h1, fun j u hu => ?_⟩
    rw [h, Nat.zero_mul, Nat.zero_add, List.getElem?_append_left (List.getElem?_eq_some_iff.1 hu).1]
    exact hu
  | y :: ys, _, ⟨c, d, h, h1, h2⟩, i + 1, x, hx => by
    obtain ⟨c2, k1, k2⟩ := Parts.get h2 i x (by simpa using hx)
    refine ⟨c2, k1, fun j u hu => ?_⟩
    rw [h, List.getElem?_append_right (by rw [L.len h1, Nat.succ_mul]; omega), L.len h1, show (i + 1) * L.sz + j - L.sz = i * L.sz + j by rw [Nat.succ_mul]; omega]
    exact k2 j u hu
theorem Parts.of (b : Nat) : ∀ (xs : List α) (o : Nat), (∀ i x, xs[i]? = some x → ∃ cs, L.K w ok x cs ∧ ∀ j u, cs[j]? = some u → w.cell? ⟨b, o + (i * L.sz + j), none⟩ = some u) → ∃ cs, Parts L w ok xs cs ∧ ∀ j u, cs[j]? = some u → w.cell? ⟨b, o + j, none⟩ = some u
  | [], o, _ => ⟨[], rfl, fun j u h => by simp at h⟩
  | x :: xs, o, h => by
    obtain ⟨c, k1, k2⟩ := h 0 x rfl
    obtain ⟨d, k3, k4⟩ := Parts.of b xs (o + L.sz) fun i y hy => by
      obtain ⟨cs, q1, q2⟩ := h (i + 1) y (by simpa using hy)
      exact ⟨cs, q1, fun j u hu => by rw [← q2 j u hu, Nat.succ_mul]; congr 2; omega⟩
    refine ⟨c ++ d, ⟨c, d, rfl, k1, k3⟩, fun j u hu => ?_⟩
    by_cases hj : j < c.length
    · rw [List.getElem?_append_left hj] at hu
      have := k2 j u hu
      rwa [Nat.zero_mul, Nat.zero_add] at this
    · rw [List.getElem?_append_right (by omega), L.len k1] at hu
      have := k4 _ u hu
      rw [L.len k1] at hj
      rwa [show o + L.sz + (j - L.sz) = o + j by omega] at this
theorem Rd.flat {b o n : Nat} {xs : List α} (h : Rd L w ok (some ⟨b, o, none⟩) n xs) : ∃ cs, Parts L w ok xs cs ∧ ∀ j u, cs[j]? = some u → w.cell? ⟨b, o + j, none⟩ = some u := by
  rcases Nat.eq_zero_or_pos n with h0 | h0
  · obtain rfl : xs = [] := List.eq_nil_of_length_eq_zero (by rw [h.len, h0])
    exact ⟨[], rfl, fun j u h => by simp at h⟩
  · obtain ⟨b', o', e, _, hr⟩ := h.row h0
    injection e with e; injection e with e1 e2; subst e1; subst e2
    exact Parts.of b xs o hr
theorem Rd.own {base : Nat} {e : TypeId} {v : Value} {xs : List α} {cs : List Value} (h : w.ownsRow base e L.sz v xs.length cs) (hp : Parts L w ok xs cs) (hok : ∀ b, v.ownBlock = some b → ok b) (hm : xs.length ≤ 9223372036854775807) :
    ∃ A c, v = .slice A xs.length c ∧ xs.length ≤ c ∧ Rd L w ok A xs.length xs := by
  rcases h.2 with ⟨rfl, h0⟩ | ⟨g, cap, cur, rfl, _, _, hnc, _⟩
  · obtain rfl : xs = [] := List.eq_nil_of_length_eq_zero h0
    exact ⟨none, 0, rfl, Nat.le_refl _, Rd.nil _ _ _ _⟩
  · refine ⟨_, cap, rfl, hnc, rfl, hm, fun _ => ⟨g, 0, rfl, hok g (by simp [Value.ownBlock]), fun i x hx => ?_⟩⟩
    obtain ⟨c, k1, k2⟩ := hp.get i x hx
    refine ⟨c, k1, fun j u hu => ?_⟩
    have := h.cells (g := g) (by simp [Value.ownBlock]) _ u (k2 j u hu)
    rwa [show (⟨g, 0, none⟩ : Addr).add (i * L.sz + j) = ⟨g, 0 + (i * L.sz + j), none⟩ by unfold Addr.add; split <;> simp_all] at this
/-- A slice value that reads as a list. -/
def Sl (L : Ly α) (w : World) (ok : Nat → Prop) (v : Value) (xs : List α) : Prop := ∃ A c, v = .slice A xs.length c ∧ xs.length ≤ c ∧ Rd L w ok A xs.length xs
end
theorem addr_add (b o j : Nat) : (⟨b, o, none⟩ : Addr).add j = ⟨b, o + j, none⟩ := by unfold Addr.add; split <;> simp_all
end Go.Proofs.T
