import PyProof.Rows.All
import Wide.All
import OpenK.AllK
import Wide.FinOn
import HandS.ForMost
import HandS.Wide
import HandS.WideBits
import HandS.IsInst
import HandS.Style
import PySem.Challenge.RW_overwise_k38_inverses_and_rests
set_option Elab.async false
set_option linter.all false
set_option maxRecDepth 100000
set_option maxHeartbeats 4000000
/-! ### own rules and steps -/
namespace Ow
open PySem L2
section
variable {Q : VK} {H H' : Hp} {A B : Prop}
theorem gi {e : Int} (h : ∀ x, x = e → Q (.int x) H) : Q (.int e) H := h e rfl
theorem gl {e n : Int} (h : e = n) (q : Q (.int n) H) : Q (.int e) H := h ▸ q
theorem gs {e n : Str} (h : e = n) (q : Q (.str n) H) : Q (.str e) H := h ▸ q
theorem cc {v : V} {σ : L2.St} (h : Q v H) : tC v σ H Q := h
theorem p2 (k : Nat) : (0 : Int) < 2 ^ k := Int.pow_pos (by decide)
theorem gpow {k : Nat} (h : ∀ x, x = (2 : Int) ^ k → 0 < x → Q (.int x) H) : Q (.int (1 * 2 ^ k)) H := by
  rw [Int.one_mul]; exact h _ rfl (p2 k)
theorem gmod {i j : Int} (hj : 0 < j) (h : ∀ x, x = i % j → 0 ≤ x → x < j → Q (.int x) H) : Q (.int (i % j)) H :=
  h _ rfl (Int.emod_nonneg _ (by omega)) (Int.emod_lt_of_pos _ hj)
theorem gmax {i j : Int} (h : ∀ x, (i ≤ x ∧ j ≤ x ∧ (x = i ∨ x = j)) → Q (.int x) H) : Q (.int (if j > i then j else i)) H := by
  apply h; split <;> omega
theorem gmin {i j : Int} (h : ∀ x, (x ≤ i ∧ x ≤ j ∧ (x = i ∨ x = j)) → Q (.int x) H) : Q (.int (if j < i then j else i)) H := by
  apply h; split <;> omega
theorem max_ite {x i j : Int} (h : x = if j > i then j else i) : i ≤ x ∧ j ≤ x ∧ (x = i ∨ x = j) := by split at h <;> omega
theorem min_ite {x i j : Int} (h : x = if j < i then j else i) : x ≤ i ∧ x ≤ j ∧ (x = i ∨ x = j) := by split at h <;> omega
theorem abs_ite {x i : Int} (h : x = if i < 0 then -i else i) : (0 ≤ i ∧ x = i) ∨ (i < 0 ∧ x = -i) := by split at h <;> omega
theorem eqi {a b : Int} (h : a = b) (q : Q (.int b) H) : Q (.int a) H := h ▸ q
theorem eqb {a b : Bool} (h : a = b) (q : Q (.bl b) H) : Q (.bl a) H := h ▸ q
theorem eqd {P : Prop} [Decidable P] (h : P) (q : Q (.bl true) H) : Q (.bl (decide P)) H := by rw [decide_eq_true h]; exact q
theorem eqnd {P : Prop} [Decidable P] (h : ¬ P) (q : Q (.bl true) H) : Q (.bl (!decide P)) H := by rw [decide_eq_false h]; exact q
theorem eqeqi {i j : Int} (h : i = j) (q : Q (.bl true) H) : Q (.bl (decide (V.int i = V.int j))) H := by rw [decide_eq_true (by rw [h])]; exact q
theorem eqnei {i j : Int} (h : i ≠ j) (q : Q (.bl true) H) : Q (.bl (!decide (V.int i = V.int j))) H := by
  rw [decide_eq_false (fun z => h (V.int.inj z))]; exact q
theorem ginteq {i j : Int} (h : ∀ n : Int, ((n = 1 ∧ i = j) ∨ (n = 0 ∧ i ≠ j)) → Q (.int n) H) : Q (.int (if decide (V.int i = V.int j) = true then 1 else 0)) H := by
  by_cases e : i = j
  · rw [if_pos (decide_eq_true (by rw [e]))]; exact h _ (.inl ⟨rfl, e⟩)
  · rw [if_neg (fun z => e (V.int.inj (of_decide_eq_true z)))]; exact h _ (.inr ⟨rfl, e⟩)
theorem gintd {P : Prop} [Decidable P] (h : ∀ n : Int, ((n = 1 ∧ P) ∨ (n = 0 ∧ ¬ P)) → Q (.int n) H) : Q (.int (if decide P = true then 1 else 0)) H := by
  by_cases e : P
  · rw [if_pos (decide_eq_true e)]; exact h _ (.inl ⟨rfl, e⟩)
  · rw [if_neg (fun z => e (of_decide_eq_true z))]; exact h _ (.inr ⟨rfl, e⟩)
theorem ifb {b : Bool} (h1 : b = true → A) (h2 : b = false → B) : if b = true then A else B := by
  cases b
  · exact iteF (h2 rfl)
  · exact iteT (h1 rfl)
theorem ifd {P : Prop} [Decidable P] (h1 : P → A) (h2 : ¬ P → B) : if decide P = true then A else B := by
  by_cases e : P
  · rw [if_pos (decide_eq_true e)]; exact h1 e
  · rw [if_neg (fun z => e (of_decide_eq_true z))]; exact h2 e
theorem ifnd {P : Prop} [Decidable P] (h1 : ¬ P → A) (h2 : P → B) : if (!decide P) = true then A else B := by
  by_cases e : P
  · rw [decide_eq_true e]; exact iteF (h2 e)
  · rw [decide_eq_false e]; exact iteT (h1 e)
theorem ifeqi {i j : Int} (h1 : i = j → A) (h2 : i ≠ j → B) : if decide (V.int i = V.int j) = true then A else B :=
  ifd (fun e => h1 (V.int.inj e)) (fun e => h2 (fun z => e (by rw [z])))
theorem ifnei {i j : Int} (h1 : i ≠ j → A) (h2 : i = j → B) : if (!decide (V.int i = V.int j)) = true then A else B :=
  ifnd (fun e => h1 (fun z => e (by rw [z]))) (fun e => h2 (V.int.inj e))
theorem ifeqs {i j : Str} (h1 : i = j → A) (h2 : i ≠ j → B) : if decide (V.str i = V.str j) = true then A else B :=
  ifd (fun e => h1 (V.str.inj e)) (fun e => h2 (fun z => e (by rw [z])))
theorem ifnes {i j : Str} (h1 : i ≠ j → A) (h2 : i = j → B) : if (!decide (V.str i = V.str j)) = true then A else B :=
  ifnd (fun e => h1 (fun z => e (by rw [z]))) (fun e => h2 (V.str.inj e))
/-! heaps -/
theorem at_new {p q : Addr} {u o : HO} (hp : H p = none) (h : H q = some o) : upd H p u q = some o := by rw [upd_ne (ne_of_none h hp)]; exact h
theorem at_mut {b q : Addr} {u o : HO} (hn : q ≠ b) (h : H q = some o) : upd H b u q = some o := by rw [upd_ne hn]; exact h
theorem same_new {p : Addr} {u : HO} (hp : H p = none) : Same H (upd H p u) := fun _ _ h => at_new hp h
theorem same_mut {b : Addr} {u : HO} (s : Same H H') (hb : H b = none) : Same H (upd H' b u) := fun q o h => by rw [upd_ne (ne_of_none h hb)]; exact s q o h
theorem ne_sym {a b : Addr} (h : a ≠ b) : b ≠ a := fun z => h z.symm
theorem seq {K : PySem.W.Frag} {a : Addr} {xs : List V} (e : Same H H') (h : SqL K H a xs) : SqL K H' a xs := e.seq h
theorem seqT {K : PySem.W.Frag} {a : Addr} {xs : List V} (e : Same H H') (h : SqT K H a xs) : SqT K H' a xs := by
  rcases h with (h | ⟨o, h⟩) | h
  · exact .inl (.inl (e _ _ h))
  · exact .inl (.inr ⟨o, e _ _ h⟩)
  · exact .inr h
end
/-! operators -/
section
variable {X : Cx}
/-- named answers -/
theorem op_mulN : OpR X (binaryOp .Mult) (fun x y H Q => ∃ i j, x = .int i ∧ y = .int j ∧ (CMul i j ∨ CMulX i j) ∧ ∀ z, z = i * j → Q (.int z) H) := by
  intro pins s σ H x y v u Q I rx ry q
  obtain ⟨i, j, rfl, rfl, hc | hc, q⟩ := q
  · exact op_mul pins s σ H _ _ v u Q I rx ry ⟨i, j, rfl, rfl, hc, q _ rfl⟩
  · exact op_mulX pins s σ H _ _ v u Q I rx ry ⟨i, j, rfl, rfl, hc, q _ rfl⟩
theorem op_divN : OpR X (binaryOp .FloorDiv) (fun x y H Q => ∃ i j, x = .int i ∧ y = .int j ∧ CDivW i j ∧ ∀ z, z = i / j → Q (.int z) H) := by
  intro pins s σ H x y v u Q I rx ry q
  obtain ⟨i, j, rfl, rfl, hc, q⟩ := q
  exact op_fdivW pins s σ H _ _ v u Q I rx ry ⟨i, j, rfl, rfl, hc, q _ rfl⟩
theorem op_shlN : OpR X (binaryOp .LShift) (fun x y H Q => ∃ i j, x = .int i ∧ y = .int j ∧ (CPow i j ∨ CShl i j) ∧ ∀ z, z = i * 2 ^ j.toNat → Q (.int z) H) := by
  intro pins s σ H x y v u Q I rx ry q
  obtain ⟨i, j, rfl, rfl, hc | hc, q⟩ := q
  · exact op_shl pins s σ H _ _ v u Q I rx ry ⟨i, j, rfl, rfl, hc, q _ rfl⟩
  · exact op_shlW pins s σ H _ _ v u Q I rx ry ⟨i, j, rfl, rfl, hc, q _ rfl⟩
theorem op_shrN : OpR X (binaryOp .RShift) (fun x y H Q => ∃ i j, x = .int i ∧ y = .int j ∧ 0 ≤ j ∧ ∀ z, z = i / 2 ^ j.toNat → Q (.int z) H) := by
  intro pins s σ H x y v u Q I rx ry q
  obtain ⟨i, j, rfl, rfl, hc, q⟩ := q
  exact op_shr pins s σ H _ _ v u Q I rx ry ⟨i, j, rfl, rfl, hc, q _ rfl⟩
theorem op_modN : OpR X (binaryOp .Mod) (fun x y H Q => ∃ i j, x = .int i ∧ y = .int j ∧ 0 < j ∧ ∀ z, z = i % j → 0 ≤ z → z < j → Q (.int z) H) := by
  intro pins s σ H x y v u Q I rx ry q
  obtain ⟨i, j, rfl, rfl, hc, q⟩ := q
  exact op_mod pins s σ H _ _ v u Q I rx ry ⟨i, j, rfl, rfl, hc, q _ rfl (Int.emod_nonneg _ (by omega)) (Int.emod_lt_of_pos _ hc)⟩
theorem op_shl1 : OpR X (binaryOp .LShift) (fun x y H Q => ∃ j, x = .int 1 ∧ y = .int j ∧ (0 ≤ j ∧ j ≤ 1000000) ∧ ∀ z, z = 2 ^ j.toNat → 0 < z → Q (.int z) H) := by
  intro pins s σ H x y v u Q I rx ry q
  obtain ⟨j, rfl, rfl, ⟨h0, h1⟩, q⟩ := q
  refine op_shl pins s σ H _ _ v u Q I rx ry ⟨1, j, rfl, rfl, ⟨h0, h1, by decide⟩, ?_⟩
  show Q (.int (1 * 2 ^ j.toNat)) H
  rw [Int.one_mul]
  exact q _ rfl (p2 _)
theorem op_mask : OpR X (binaryOp .BitAnd) (fun x y H Q => ∃ (i j : Int) (k : Nat), x = .int i ∧ y = .int j ∧ j = 2 ^ k - 1 ∧ ∀ r, r = i % 2 ^ k → 0 ≤ r → r < 2 ^ k → Q (.int r) H) := by
  intro pins s σ H x y v u Q I rx ry h
  obtain ⟨i, j, k, rfl, rfl, rfl, q⟩ := h
  refine op_andM pins s σ H _ _ v u Q I rx ry ⟨i, k, rfl, rfl, q _ rfl (Int.emod_nonneg _ ?_) (Int.emod_lt_of_pos _ (p2 k))⟩
  have := p2 k; omega
theorem op_bor : OpR X (binaryOp .BitOr) (fun x y H Q => ∃ (i j : Int), x = .int i ∧ y = .int j ∧ 0 ≤ i ∧ 0 ≤ j ∧ ∀ r, r = Builtin.bitOr i j → 0 ≤ r → Q (.int r) H) := by
  intro pins s σ H x y v u Q I rx ry h
  obtain ⟨i, j, rfl, rfl, h0, h1, q⟩ := h
  refine op_or pins s σ H _ _ v u Q I rx ry ⟨i, j, rfl, rfl, q _ rfl ?_⟩
  rw [bitOr_nn h0 h1]
  exact Int.natCast_nonneg _
theorem call_intb : CallR X (.type "int") (fun xs H Q => ∃ k, xs = [.bl k] ∧ ∀ n : Int, ((n = 1 ∧ k = true) ∨ (n = 0 ∧ k = false)) → Q (.int n) H) := by
  intro pins s σ H xs us Q I r h
  obtain ⟨k, rfl, q⟩ := h
  refine call_int1 pins s σ H _ us Q I r (.inr ⟨k, rfl, ?_⟩)
  cases k
  · exact q _ (.inr ⟨rfl, rfl⟩)
  · exact q _ (.inl ⟨rfl, rfl⟩)
/-- an int's value by a name -/
def tNmi (t : TE) : TE := fun σ H Q => t σ H fun v H1 => ∃ i, v = .int i ∧ ∀ x, x = i → Q (.int x) H1
theorem pe_nmi {e : Expr} {t : TE} (h : PE X e t) : PE X e (tNmi t) := ⟨fun pins s σ H Q I q => thn (h.run pins s σ H _ I q) fun _ _ z => by
  obtain ⟨v, H1, I1, r1, i, rfl, q1⟩ := z
  exact ⟨.int i, H1, I1, r1, q1 i rfl⟩⟩
/-- a reckoned constant -/
def tLit (n : Int) (t : TE) : TE := fun σ H Q => t σ H fun v H1 => v = .int n ∧ Q (.int n) H1
theorem pe_lit (n : Int) {e : Expr} {t : TE} (h : PE X e t) : PE X e (tLit n t) := ⟨fun pins s σ H Q I q => thn (h.run pins s σ H _ I q) fun _ _ z => by
  obtain ⟨v, H1, I1, r1, rfl, q1⟩ := z
  exact ⟨.int n, H1, I1, r1, q1⟩⟩
end
theorem pow2_mono {a b : Nat} (h : a ≤ b) : (2 : Int) ^ a ≤ 2 ^ b := by
  have e : (2 : Int) ^ b = 2 ^ a * 2 ^ (b - a) := by rw [← Int.pow_add, show a + (b - a) = b by omega]
  rw [e]
  have h1 := p2 a
  have h2 := p2 (b - a)
  calc (2 : Int) ^ a = 2 ^ a * 1 := by omega
    _ ≤ 2 ^ a * 2 ^ (b - a) := Int.mul_le_mul_of_nonneg_left (by omega) (by omega)
theorem pow2_pred {w : Int} (h : 1 ≤ w) : (2 : Int) ^ w.toNat = 2 * 2 ^ (w - 1).toNat := by
  have e : w.toNat = (w - 1).toNat + 1 := by omega
  rw [e, Int.pow_succ, Int.mul_comm]
theorem pow2_lt {a b : Int} (h0 : 0 ≤ a) (h : a < b) : (2 : Int) ^ a.toNat < 2 ^ b.toNat := by
  have h1 := pow2_mono (a := a.toNat) (b := (b - 1).toNat) (by omega)
  have h2 := pow2_pred (w := b) (by omega)
  have h3 := p2 (b - 1).toNat
  omega
theorem pow2_le32 {w : Int} (h : w ≤ 32) : (2 : Int) ^ w.toNat ≤ 4294967296 := pow2_mono (b := 32) (by omega)
theorem pow2_le64 {w : Int} (h : w ≤ 64) : (2 : Int) ^ w.toNat ≤ 18446744073709551616 := pow2_mono (b := 64) (by omega)
theorem divw64 {i j : Int} (h0 : 0 < j) (h : j ≤ 18446744073709551616) : CDivW i j := wide_div h0 (b := 65) (by omega) (by decide) (by decide)
/-! sizes -/
def Sz (n : Nat) (i : Int) : Prop := i.natAbs < 2 ^ n
theorem Sz.lit {n : Nat} {i : Int} (h : i.natAbs < 2 ^ n) : Sz n i := h
theorem Sz.mono {a b : Nat} {i : Int} (h : Sz a i) (hab : a ≤ b) : Sz b i := Nat.lt_of_lt_of_le h (Nat.pow_le_pow_right (by decide) hab)
theorem Sz.mul {a b : Nat} {i j : Int} (h : Sz a i) (h' : Sz b j) : Sz (a + b) (i * j) := wide_lt h h'
theorem Sz.le {a : Nat} {i j : Int} (h : Sz a i) (hl : j.natAbs ≤ i.natAbs) : Sz a j := Nat.lt_of_le_of_lt hl h
theorem Sz.add {a : Nat} {i j : Int} (h : Sz a i) (h' : Sz a j) : Sz (a + 1) (i + j) := by
  unfold Sz at *
  rw [Nat.pow_succ]
  have := Int.natAbs_add_le i j
  omega
theorem Sz.neg {a : Nat} {i : Int} (h : Sz a i) : Sz a (-i) := by unfold Sz at *; rw [Int.natAbs_neg]; exact h
theorem Sz.sub {a : Nat} {i j : Int} (h : Sz a i) (h' : Sz a j) : Sz (a + 1) (i - j) := by
  rw [Int.sub_eq_add_neg]; exact h.add h'.neg
theorem Sz.pow {k : Int} {n : Nat} (h : k ≤ n) : Sz (n + 1) (2 ^ k.toNat) := by
  unfold Sz
  rw [Int.natAbs_pow]
  exact Nat.pow_lt_pow_right (by decide) (by omega)
theorem Sz.shl {a n : Nat} {i k : Int} (h : Sz a i) (hk : k ≤ n) : Sz (a + (n + 1)) (i * 2 ^ k.toNat) := h.mul (Sz.pow hk)
theorem Sz.div {a : Nat} {i j : Int} (h : Sz a i) (hj : 0 < j) : Sz a (i / j) := by
  refine h.le ?_
  have h1 := Int.ediv_mul_add_emod i j
  have h2 := Int.emod_nonneg i (show j ≠ 0 by omega)
  have h3 := Int.emod_lt_of_pos i hj
  by_cases hi : i < 0
  · have h4 : i ≤ i / j := by
      refine (Int.le_ediv_iff_mul_le hj).mpr ?_
      have : i * 1 ≥ i * j := Int.mul_le_mul_of_nonpos_left (by omega) (by omega)
      omega
    have h5 : i / j < 0 := Int.ediv_neg_of_neg_of_pos hi hj
    omega
  · have h4 : i / j ≤ i := Int.ediv_le_self _ (by omega)
    have h5 : 0 ≤ i / j := Int.ediv_nonneg (by omega) (by omega)
    omega
theorem Sz.rng {n : Nat} {i j : Int} (h0 : 0 ≤ i) (h1 : i < j) (h : j.natAbs ≤ 2 ^ n) : Sz n i := by
  unfold Sz; omega
theorem Sz.md {n : Nat} {i j : Int} (h0 : 0 ≤ i) (h1 : i < j) (h : Sz n j) : Sz n i := by
  unfold Sz at *; omega
theorem Sz.abs {n : Nat} {x i : Int} (h : Sz n i) (hx : x = if i < 0 then -i else i) : Sz n x := by
  refine h.le ?_; split at hx <;> omega
theorem mul0 {i j : Int} (h : -(2 ^ 64) < i ∧ i < 2 ^ 64) : CMul i j ∨ CMulX i j := .inl (.inl h)
theorem mul1 {i j : Int} (h : -(2 ^ 64) < j ∧ j < 2 ^ 64) : CMul i j ∨ CMulX i j := .inl (.inr h)
theorem shl0 {i j : Int} (h : 0 ≤ j) (h' : j ≤ 1000000) (h2 : i.natAbs < 2 ^ 64) : CPow i j ∨ CShl i j := .inl ⟨h, h', h2⟩
theorem mulx {a b : Nat} {i j : Int} (h : Sz a i) (h' : Sz b j) (hl : a + b ≤ 134217728) : CMulX i j := mulx_ok h h' hl
theorem divz {b : Nat} {i j : Int} (h : 0 < j) (hb : Sz b j) (h0 : 0 < b) (h9 : b ≤ 9000) : CDivW i j := wide_div h hb h0 h9
theorem shlz {a n : Nat} {i j : Int} (h : Sz a i) (h0 : 0 ≤ j) (hj : j ≤ n) (hn : a + n ≤ 134217728) : CShl i j := by
  obtain ⟨k, rfl⟩ : ∃ k : Nat, j = k := ⟨j.toNat, by omega⟩
  exact shl_ok h (by omega)
/-- all but the object at b is as it was -/
def Fm (b : Addr) (H H' : Hp) : Prop := ∀ q o, q ≠ b → H q = some o → H' q = some o
theorem Fm.refl {b : Addr} {H : Hp} : Fm b H H := fun _ _ _ h => h
theorem Fm.same {b : Addr} {H H1 H2 : Hp} (a : Fm b H H1) (s : Same H1 H2) : Fm b H H2 := fun q o n h => s q o (a q o n h)
theorem Fm.mut {b : Addr} {H H1 : Hp} {u : HO} (a : Fm b H H1) : Fm b H (upd H1 b u) := fun q o n h => by rw [upd_ne n]; exact a q o n h
theorem Fm.mutF {b c : Addr} {H H1 : Hp} {u : HO} (a : Fm b H H1) (hc : H c = none) : Fm b H (upd H1 c u) := fun q o n h => by rw [upd_ne (ne_of_none h hc)]; exact a q o n h
theorem Fm.trans {b : Addr} {H H1 H2 : Hp} (a : Fm b H H1) (s : Fm b H1 H2) : Fm b H H2 := fun q o n h => s q o n (a q o n h)
theorem Fm.frameF {b c : Addr} {H H1 H2 : Hp} (a : Fm b H H1) (s : Fm c H1 H2) (hc : H c = none) : Fm b H H2 := fun q o n h => s q o (ne_of_none h hc) (a q o n h)
theorem Fm.free {b : Addr} {H H' : Hp} (a : Fm b H H') {o : HO} {l : Addr} (hb : H' b = some o) (h : H' l = none) : H l = none := by
  cases e : H l with
  | none => rfl
  | some u =>
    have n : l ≠ b := fun z => by rw [z, hb] at h; cases h
    rw [a l u n e] at h; cases h
theorem same_frame {c : Addr} {H H1 H2 : Hp} (s : Same H H1) (f : Fm c H1 H2) (hc : H c = none) : Same H H2 := fun q o h => f q o (ne_of_none h hc) (s q o h)
/-! lists of ints -/
theorem szl {n : Nat} (h : n < 1000000) : n < sizeLine := Nat.lt_of_lt_of_le h (by decide)
theorem szle {n : Nat} (h : n ≤ 1000000) : n ≤ sizeLine := Nat.le_trans h (by decide)
section
variable {X : Cx} {K : PySem.W.Frag} {H H' : Hp} {Q : VK} {a : Addr}
theorem ap_ints {xs : List Int} {e : Int} (h : H a = some (.lst (xs.map V.int ++ [.int e]))) : H a = some (.lst ((xs ++ [e]).map V.int)) := by
  rw [List.map_append]; exact h
theorem set_ints {xs : List Int} {e : Int} {j : Nat} (h : H a = some (.lst ((xs.map V.int).set j (.int e)))) : H a = some (.lst ((xs.set j e).map V.int)) := by
  rw [List.map_set]; exact h
theorem dpAll_ints : ∀ xs : List Int, DpAll K H (xs.map V.int) (xs.map PyData.int)
  | [] => .nil
  | x :: xs => .cons (.int x) (dpAll_ints xs)
theorem dp_ints {xs : List Int} (h : SqL K H a (xs.map V.int)) : Dp K H (.ref a) (.list (xs.map PyData.int)) := .lst h (dpAll_ints xs)
theorem layAll_ints : ∀ xs : List Int, PyData.canLayAll0 (xs.map PyData.int) = true
  | [] => rfl
  | x :: xs => by
    rw [List.map_cons, PyData.canLayAll0, layAll_ints xs]
    rfl
theorem depAll_ints : ∀ xs : List Int, PyData.depthAll (xs.map PyData.int) = 0
  | [] => rfl
  | x :: xs => by
    rw [List.map_cons, PyData.depthAll, depAll_ints xs]
    rfl
theorem shaped_ints (xs : List Int) : SeqAt.shaped (.list (xs.map PyData.int)) = true := by
  unfold SeqAt.shaped
  rw [PyData.canLay0, PyData.depth, layAll_ints, depAll_ints]
  rfl
theorem eqvAll_ints : ∀ xs ys : List Int, PyData.eqvAll (xs.map PyData.int) (ys.map PyData.int) = decide (xs = ys)
  | [], [] => rfl
  | [], _ :: _ => rfl
  | _ :: _, [] => rfl
  | x :: xs, y :: ys => by
    rw [List.map_cons, List.map_cons, PyData.eqvAll, PyData.eqv, eqvAll_ints xs ys]
    by_cases h : x = y
    · by_cases h2 : xs = ys <;> simp [h, h2]
    · simp [h]
theorem eqv_ints (xs ys : List Int) : PyData.eqv (.list (xs.map PyData.int)) (.list (ys.map PyData.int)) = decide (xs = ys) := by
  rw [PyData.eqv]; exact eqvAll_ints xs ys
theorem op_eqI (hu : X.A.units + 64 < cLine) : OpR X (compareOp .Eq) (fun x y H Q => ∃ (a b : Addr) (xs ys : List Int), x = .ref a ∧ y = .ref b ∧ SqL X.K H a (xs.map V.int) ∧ SqL X.K H b (ys.map V.int) ∧ Q (.bl (decide (xs = ys))) H) := by
  intro pins s σ H x y v u Q I rx ry h
  obtain ⟨a, b, xs, ys, rfl, rfl, h1, h2, q⟩ := h
  refine op_eqD hu pins s σ H _ _ v u Q I rx ry ⟨_, _, dp_ints h1, dp_ints h2, shaped_ints _, shaped_ints _, ?_⟩
  rw [eqv_ints]; exact q
theorem op_neI (hu : X.A.units + 64 < cLine) : OpR X (compareOp .NotEq) (fun x y H Q => ∃ (a b : Addr) (xs ys : List Int), x = .ref a ∧ y = .ref b ∧ SqL X.K H a (xs.map V.int) ∧ SqL X.K H b (ys.map V.int) ∧ Q (.bl (!decide (xs = ys))) H) := by
  intro pins s σ H x y v u Q I rx ry h
  obtain ⟨a, b, xs, ys, rfl, rfl, h1, h2, q⟩ := h
  refine op_neD hu pins s σ H _ _ v u Q I rx ry ⟨_, _, dp_ints h1, dp_ints h2, shaped_ints _, shaped_ints _, ?_⟩
  rw [eqv_ints]; exact q
theorem ixN_nat {n j : Nat} (h : j < n) : ixN n (j : Int) = some j := by
  unfold ixN
  rw [if_pos (by omega), if_pos (by omega)]; simp
theorem ixlast {xs : List Int} (h : SqL K H a (xs.map V.int)) (h0 : 0 < xs.length) (q : ∀ y, xs.getLast? = some y → Q (.int y) H) : rIxL K (.ref a) (.int (-1)) H Q := by
  obtain ⟨y, hy⟩ : ∃ y, xs.getLast? = some y := by
    cases e : xs.getLast? with
    | none => rw [List.getLast?_eq_none_iff] at e; subst e; simp at h0
    | some y => exact ⟨y, rfl⟩
  refine ⟨a, _, _, .int y, rfl, rfl, h, ?_, q y hy⟩
  obtain ⟨ys, rfl⟩ := List.getLast?_eq_some_iff.mp hy
  rw [List.map_append]
  exact atI_last _ _
end
/-! items -/
section
variable {K : PySem.W.Frag} {H : Hp} {Q : VK} {a : Addr}
theorem ixi {xs : List Int} {i : Int} (h : SqL K H a (xs.map V.int)) (h0 : 0 ≤ i) (h1 : i < xs.length) (q : ∀ y, xs[i.toNat]? = some y → Q (.int y) H) : rIxL K (.ref a) (.int i) H Q := by
  obtain ⟨n, rfl⟩ : ∃ n : Nat, i = n := ⟨i.toNat, by omega⟩
  have hl : n < xs.length := by omega
  refine ⟨a, _, _, .int (xs[n]'hl), rfl, rfl, h, atI_nat ?_, q _ (List.getElem?_eq_getElem hl)⟩
  rw [List.getElem?_map, List.getElem?_eq_getElem hl]
  all_goals rfl
theorem inV_int {y : Int} {xs : List Int} (h : y ∈ xs) : (if false = true then !(inV (.int y) (xs.map V.int)) else inV (.int y) (xs.map V.int)) = true := by
  rw [if_neg Bool.false_ne_true]
  unfold inV
  rw [List.any_map, List.any_eq_true]
  exact ⟨y, h, by simp [eqV]⟩
theorem ixn {xs : List Int} {i : Int} (h : SqL K H a (xs.map V.int)) (h0 : 0 ≤ i) (h1 : i < xs.length) (q : ∀ y, xs[i.toNat]? = some y → Q (.int y) H) : rIxL K (.ref a) (.int i) H Q := ixi h h0 h1 q

theorem gturn {n i : Nat} {σ : L2.St} {R : L2.St → Hp → Prop} (h : ∀ x : Int, x = (i : Int) → gName n (.int x) σ H R) : gName n (.int (0 + (i : Int))) σ H R := h _ (by omega)
/-! a for over a written list, turn by turn -/
def unr (K : PySem.W.Frag) (a : Addr) (xs : List V) (g : TG) (tb : TS) (D : Ends) : List V → L2.St → Hp → Prop
  | [], σ, H => SqL K H a xs ∧ D.nx σ H
  | x :: r, σ, H => SqL K H a xs ∧ g x σ H fun σ2 H2 => tb { D with nx := unr K a xs g tb D r, ct := unr K a xs g tb D r, bk := D.nx } σ2 H2
theorem un_start {xs : List V} {g : TG} {tb : TS} {D : Ends} {σ : L2.St} (h : unr K a xs g tb D xs σ H) :
    ∃ W : Nat → Nat → L2.St → Hp → Prop, (∃ m, W 0 m σ H) ∧ ∀ i m σ H, W i m σ H →
      ((Itl K a).stop i H ∧ D.nx σ H) ∨ ((Itl K a).go i H ∧ ∃ N : L2.St → Hp → Prop, (∀ σ' H', N σ' H' → ∃ m', m' < m ∧ W (i + 1) m' σ' H') ∧ ∀ x H', (Itl K a).yld i H x H' → g x σ H' fun σ2 H2 => tb { D with nx := N, ct := N, bk := D.nx } σ2 H2) := by
  refine ⟨fun i m σ H => m = xs.length - i ∧ i ≤ xs.length ∧ unr K a xs g tb D (xs.drop i) σ H, ⟨xs.length, by simp, Nat.zero_le _, h⟩, ?_⟩
  rintro i m σ H ⟨rfl, hi, p⟩
  by_cases hlt : i < xs.length
  · rw [List.drop_eq_getElem_cons hlt] at p
    obtain ⟨q, p⟩ := p
    refine .inr ⟨⟨xs, xs[i], q, by simp [hlt]⟩, unr K a xs g tb D (xs.drop (i + 1)), fun σ' H' p' => ⟨xs.length - (i + 1), by omega, rfl, hlt, p'⟩, fun x H' y => ?_⟩
    obtain ⟨e, y⟩ := y
    subst e
    have e2 := y xs q
    rw [List.getElem?_eq_getElem hlt] at e2
    cases e2
    exact p
  · have e : i = xs.length := by omega
    subst e
    rw [List.drop_length] at p
    obtain ⟨q, p⟩ := p
    exact .inl ⟨⟨xs, q, Nat.le_refl _⟩, p⟩
end
/-- a def that stands behind the top -/
structure Dk (K : PySem.W.Frag) (mg : Str → Option Value) (x qual : Str) (st : Stmt) (ps : List Str) : Type where
  f : Addr
  fd : FuncData
  F : Fun K x qual st f fd
  b : Binds K fd ps []
  m : mg x = some (.ref f)
end Ow

namespace Ow
open PySem L2
local macro_rules | `(tactic| walk_at "ob") => `(tactic| first | assumption | omega | exact ⟨by omega, by omega⟩ | exact ⟨by omega, by omega, by omega⟩ | exact Ow.divw64 (by omega) (by omega) | exact Or.inl ⟨by omega, by omega⟩ | exact Or.inr ⟨by omega, by omega⟩)

def Stp (w d : Int) (xs : List Int) : Prop :=
  xs[0]? = some d ∧ (∀ (j : Nat) (x : Int), xs[j]? = some x → 0 ≤ x ∧ x < 2 ^ w.toNat ∧ (x * d - 1) % 2 ^ min w.toNat (3 * 2 ^ j) = 0) ∧
    ∀ (j : Nat) (x y : Int), xs[j]? = some x → xs[j + 1]? = some y → x * d % 2 ^ w.toNat ≠ 1 ∧ y = x * (2 - d * x) % 2 ^ w.toNat
theorem pow_dvd {a b : Nat} (h : a ≤ b) : (2 : Int) ^ a ∣ 2 ^ b := ⟨2 ^ (b - a), by rw [← Int.pow_add, show a + (b - a) = b by omega]⟩
theorem one_mod {x : Int} {M : Int} (h : 1 < M) : x % M = 1 ↔ M ∣ x - 1 := by
  constructor
  · intro e
    refine Int.dvd_of_emod_eq_zero ?_
    rw [Int.sub_emod, e, Int.emod_eq_of_lt (a := 1) (by omega) h]
    simp
  · intro e
    have e2 := Int.emod_eq_zero_of_dvd e
    have h1 := Int.emod_nonneg x (show M ≠ 0 by omega)
    have h2 := Int.emod_lt_of_pos x (show 0 < M by omega)
    obtain ⟨c, hc⟩ := e
    have : x = 1 + M * c := by omega
    rw [this, Int.add_mul_emod_self_left, Int.emod_eq_of_lt (by omega) h]
theorem pow_gt1 {w : Int} (h : 4 ≤ w) : (1 : Int) < 2 ^ w.toNat := by
  have e : (2 : Int) ^ w.toNat = 2 ^ 4 * 2 ^ (w.toNat - 4) := by rw [← Int.pow_add, show 4 + (w.toNat - 4) = w.toNat by omega]
  have := p2 (w.toNat - 4)
  rw [e]; omega
theorem stp_init {w d : Int} (hw : 4 ≤ w) (h0 : 1 ≤ d) (h1 : d < 2 ^ w.toNat) (ho : d % 2 = 1) : Stp w d [d] := by
  refine ⟨rfl, fun j x h => ?_, fun j x y _ h => ?_⟩
  · match j, h with
    | 0, h =>
      cases h
      refine ⟨by omega, h1, ?_⟩
      rw [show min w.toNat (3 * 2 ^ 0) = 3 by omega]
      obtain ⟨k, hk⟩ : ∃ k, d = 2 * k + 1 := ⟨d / 2, by omega⟩
      obtain ⟨m, hm⟩ : ∃ m, k * (k + 1) = 2 * m := by
        rcases Int.emod_two_eq k with z | z
        · obtain ⟨q, hq⟩ : ∃ q, k = 2 * q := ⟨k / 2, by omega⟩
          exact ⟨q * (k + 1), by rw [hq, Int.mul_assoc]⟩
        · obtain ⟨q, hq⟩ : ∃ q, k + 1 = 2 * q := ⟨(k + 1) / 2, by omega⟩
          exact ⟨k * q, by rw [hq, Int.mul_left_comm]⟩
      have e : d * d - 1 = 8 * m := by
        rw [hk]
        have : (2 * k + 1) * (2 * k + 1) - 1 = 4 * (k * (k + 1)) := by
          simp only [Int.mul_add, Int.add_mul, Int.mul_one, Int.one_mul]
          have : 2 * k * (2 * k) = 4 * (k * k) := by rw [Int.mul_assoc, Int.mul_left_comm k 2 k]; omega
          omega
        rw [this, hm]; omega
      rw [e]
      show 8 * m % 8 = 0
      omega
  · simp at h
theorem stp_step {w d l n : Int} {xs : List Int} (hw : 4 ≤ w) (h32 : w ≤ 32) (hx : Stp w d xs) (hl : xs.getLast? = some l) (hp : l * d % 2 ^ w.toNat ≠ 1)
    (hn : n = l * ((2 - l * d % 2 ^ w.toNat) % 2 ^ w.toNat) % 2 ^ w.toNat) (h5 : xs.length ≤ 5) : xs.length ≤ 4 ∧ Stp w d (xs ++ [n]) := by
  obtain ⟨a1, a2, a3⟩ := hx
  have hM := pow_gt1 hw
  have hlen : 0 < xs.length := by
    cases xs with
    | nil => simp at hl
    | cons => simp
  have hl' : xs[xs.length - 1]? = some l := by rw [← List.getLast?_eq_getElem?]; exact hl
  obtain ⟨l0, l1, l2⟩ := a2 _ _ hl'
  have hn' : n = l * (2 - d * l) % 2 ^ w.toNat := by
    rw [hn, Int.mul_emod l (_ % _), Int.emod_emod_of_dvd _ (Int.dvd_refl _), ← Int.mul_emod]
    rw [Int.mul_emod, Int.sub_emod 2 (l * d % _), Int.emod_emod_of_dvd _ (Int.dvd_refl _), ← Int.sub_emod, ← Int.mul_emod, Int.mul_comm l d]
  have h4 : xs.length ≤ 4 := by
    by_cases h : xs.length ≤ 4
    · exact h
    · have e : xs.length - 1 = 4 := by omega
      rw [e, show min w.toNat (3 * 2 ^ 4) = w.toNat by omega] at l2
      exact absurd ((one_mod hM).mpr (Int.dvd_of_emod_eq_zero l2)) hp
  refine ⟨h4, ?_, fun j x h => ?_, fun j x y h h' => ?_⟩
  · rw [List.getElem?_append_left hlen]; exact a1
  · by_cases hj : j < xs.length
    · rw [List.getElem?_append_left hj] at h
      exact a2 j x h
    · rw [List.getElem?_append_right (by omega)] at h
      have ej : j = xs.length := by
        by_cases e : j - xs.length = 0
        · omega
        · rw [List.getElem?_eq_none (by simp; omega)] at h; cases h
      subst ej
      rw [Nat.sub_self] at h
      cases h
      refine ⟨hn' ▸ Int.emod_nonneg _ (by omega), hn' ▸ Int.emod_lt_of_pos _ (by omega), ?_⟩
      have d1 : (2 : Int) ^ min w.toNat (3 * 2 ^ (xs.length - 1)) ∣ l * d - 1 := Int.dvd_of_emod_eq_zero l2
      obtain ⟨c, hc⟩ := d1
      have ep : 2 ^ xs.length = 2 * 2 ^ (xs.length - 1) := by
        rw [← Nat.pow_succ']; congr 1; omega
      have hk : min w.toNat (3 * 2 ^ xs.length) ≤ min w.toNat (3 * 2 ^ (xs.length - 1)) + min w.toNat (3 * 2 ^ (xs.length - 1)) := by rw [ep]; omega
      have d2 : (2 : Int) ^ min w.toNat (3 * 2 ^ xs.length) ∣ (l * d - 1) * (l * d - 1) := by
        rw [hc]
        have : (2 : Int) ^ min w.toNat (3 * 2 ^ (xs.length - 1)) * c * (2 ^ min w.toNat (3 * 2 ^ (xs.length - 1)) * c) = 2 ^ (min w.toNat (3 * 2 ^ (xs.length - 1)) + min w.toNat (3 * 2 ^ (xs.length - 1))) * (c * c) := by
          rw [Int.pow_add]; simp only [Int.mul_assoc, Int.mul_left_comm, Int.mul_comm]
        rw [this]
        exact Int.dvd_trans (pow_dvd hk) (Int.dvd_mul_right _ _)
      have d3 : (2 : Int) ^ min w.toNat (3 * 2 ^ xs.length) ∣ 2 ^ w.toNat := pow_dvd (by omega)
      refine Int.emod_eq_zero_of_dvd ?_
      have e1 := Int.ediv_mul_add_emod (l * (2 - d * l)) (2 ^ w.toNat)
      rw [← hn'] at e1
      have e2 : n = l * (2 - d * l) - l * (2 - d * l) / 2 ^ w.toNat * 2 ^ w.toNat := by omega
      generalize l * (2 - d * l) / 2 ^ w.toNat = t at e2
      have e3 : n * d - 1 = -((l * d - 1) * (l * d - 1)) - t * d * 2 ^ w.toNat := by
        rw [e2]
        generalize (2 : Int) ^ w.toNat = M
        simp only [Int.mul_sub, Int.sub_mul, Int.mul_one, Int.one_mul]
        have z1 : l * (d * l) * d = l * d * (l * d) := by simp only [Int.mul_assoc, Int.mul_left_comm, Int.mul_comm]
        have z2 : t * M * d = t * d * M := by simp only [Int.mul_assoc, Int.mul_left_comm, Int.mul_comm]
        have z3 : l * 2 * d = 2 * (l * d) := by simp only [Int.mul_assoc, Int.mul_left_comm, Int.mul_comm]
        omega
      rw [e3]
      exact Int.dvd_sub (Int.dvd_neg.mpr d2) (Int.dvd_trans d3 (Int.dvd_mul_left _ _))
  · by_cases hj : j + 1 < xs.length
    · rw [List.getElem?_append_left (by omega)] at h
      rw [List.getElem?_append_left hj] at h'
      exact a3 j x y h h'
    · have ej : j + 1 = xs.length := by
        by_cases e : j + 1 - xs.length = 0
        · omega
        · rw [List.getElem?_eq_none (by simp; omega)] at h'; cases h'
      rw [List.getElem?_append_right (by omega), ej, Nat.sub_self] at h'
      cases h'
      rw [List.getElem?_append_left (by omega), show j = xs.length - 1 by omega, hl'] at h
      cases h
      exact ⟨hp, hn'⟩
theorem inv_uniq {x y d M : Int} (hM : 1 < M) (x0 : 0 ≤ x) (x1 : x < M) (y0 : 0 ≤ y) (y1 : y < M) (hx : x * d % M = 1) (hy : y * d % M = 1) : x = y := by
  have e1 : x * (y * d) % M = x := by
    rw [Int.mul_emod, hy, Int.mul_one, Int.emod_emod_of_dvd _ (Int.dvd_refl _), Int.emod_eq_of_lt x0 x1]
  have e2 : y * (x * d) % M = y := by
    rw [Int.mul_emod, hx, Int.mul_one, Int.emod_emod_of_dvd _ (Int.dvd_refl _), Int.emod_eq_of_lt y0 y1]
  have e3 : x * (y * d) = y * (x * d) := Int.mul_left_comm ..
  rw [e3] at e1
  exact e1.symm.trans e2
theorem stp_last {w d l : Int} {xs : List Int} (hx : Stp w d xs) (hl : xs.getLast? = some l) : 0 ≤ l ∧ l < 2 ^ w.toNat := by
  rw [List.getLast?_eq_getElem?] at hl
  obtain ⟨h, h', _⟩ := hx.2.1 _ _ hl
  exact ⟨h, h'⟩

theorem shl_lt {a k w h : Int} (h0 : 1 ≤ a) (ha : a ≤ 2 ^ (w - h).toNat) (k0 : 0 ≤ k) (hk : k < h) (hh : h ≤ w) : 1 ≤ a * 2 ^ k.toNat ∧ a * 2 ^ k.toNat < 2 ^ w.toNat := by
  have p := p2 k.toNat
  have q := p2 (w - h).toNat
  have e : (2 : Int) ^ w.toNat = 2 ^ (w - h).toNat * 2 ^ h.toNat := by rw [← Int.pow_add]; congr 1; omega
  have e2 : (2 : Int) ^ k.toNat < 2 ^ h.toNat := by
    have e3 : (2 : Int) ^ h.toNat = 2 ^ k.toNat * 2 ^ (h - k).toNat := by rw [← Int.pow_add]; congr 1; omega
    have e4 : (2 : Int) ^ (h - k).toNat = 2 * 2 ^ (h - k - 1).toNat := by
      rw [show (h - k).toNat = (h - k - 1).toNat + 1 by omega, Int.pow_succ, Int.mul_comm]
    have p3 := p2 (h - k - 1).toNat
    have : (2 : Int) ^ k.toNat * 2 ≤ 2 ^ k.toNat * 2 ^ (h - k).toNat := Int.mul_le_mul_of_nonneg_left (by omega) (by omega)
    omega
  constructor
  · have : 1 * 2 ^ k.toNat ≤ a * 2 ^ k.toNat := Int.mul_le_mul_of_nonneg_right h0 (by omega)
    omega
  · rw [e]
    have h1 : a * 2 ^ k.toNat ≤ 2 ^ (w - h).toNat * 2 ^ k.toNat := Int.mul_le_mul_of_nonneg_right ha (by omega)
    have h2 : (2 : Int) ^ (w - h).toNat * 2 ^ k.toNat < 2 ^ (w - h).toNat * 2 ^ h.toNat := Int.mul_lt_mul_of_pos_left e2 q
    omega
theorem rest_mod (x a M : Int) : (x - a % M) % M = (x - a) % M := by
  rw [Int.sub_emod x (a % M), Int.emod_emod_of_dvd _ (Int.dvd_refl _), ← Int.sub_emod]
theorem quo_word {x d M : Int} (x0 : 0 ≤ x) (x1 : x < M) (d0 : 1 ≤ d) : 0 ≤ x / d ∧ x / d < M := by
  have h1 := Int.ediv_le_self d x0
  have h2 : 0 ≤ x / d := Int.ediv_nonneg x0 (by omega)
  omega
theorem rest_quo {x d M : Int} (x0 : 0 ≤ x) (x1 : x < M) (d0 : 1 ≤ d) : (x - x / d * d) % M = x % d := by
  have h1 := Int.ediv_mul_add_emod x d
  have h2 := Int.emod_nonneg x (show d ≠ 0 by omega)
  have h3 : 0 ≤ x / d * d := Int.mul_nonneg (Int.ediv_nonneg x0 (by omega)) (by omega)
  rw [show x - x / d * d = x % d by omega, Int.emod_eq_of_lt h2 (by omega)]

theorem last_ix {xs : List Int} {l i : Int} (h : xs[i.toNat]? = some l) (hi : i = xs.length - 1) (h0 : 0 < xs.length) : xs.getLast? = some l := by
  rw [List.getLast?_eq_getElem?, ← h]; congr 1; omega

theorem stp_at {w d x i : Int} {xs : List Int} (hx : Stp w d xs) (hw : 0 ≤ w) (h : xs[i.toNat]? = some x) (m : Int) (hm : m ≤ w ∧ m ≤ 3 * 2 ^ i.toNat ∧ (m = w ∨ m = 3 * 2 ^ i.toNat)) : (x * d - 1) % 2 ^ m.toNat = 0 := by
  have e := (hx.2.1 _ _ h).2.2
  have e2 : m.toNat = min w.toNat (3 * 2 ^ i.toNat) := by
    have e3 : ((3 * 2 ^ i.toNat : Nat) : Int) = 3 * 2 ^ i.toNat := by simp
    omega
  rw [e2]; exact e
theorem stp_next {w d x i : Int} {xs : List Int} (hx : Stp w d xs) (h : xs[i.toNat]? = some x) (hi : i.toNat + 1 < xs.length) : x * d % 2 ^ w.toNat ≠ 1 :=
  (hx.2.2 _ _ _ h (List.getElem?_eq_getElem hi)).1
theorem stp_val {w d x y i : Int} {xs : List Int} (hx : Stp w d xs) (h : xs[i.toNat]? = some x) (h' : xs[(i + 1).toNat]? = some y) (hi : 0 ≤ i) : y = x * (2 - d * x) % 2 ^ w.toNat := by
  rw [show (i + 1).toNat = i.toNat + 1 by omega] at h'
  exact (hx.2.2 _ _ _ h h').2

def top (i : Nat) : Stmt := PySem.Challenge.pw_overwise_k38_inverses_and_rests.main.body.getD i (.Pass ⟨0, 0, 0, 0⟩)
abbrev s_is_whole : Stmt := top 7
theorem sc_is_whole : FnScope ["thing"] ["thing"] (defScope s_is_whole) := ⟨rfl, rfl, rfl, by decide +kernel, rfl, by decide +kernel, by decide +kernel⟩
def sp_is_whole (K : PySem.W.Frag) : Sp := fun vs H Q E => ∃ (thing : Int), vs = [.int thing] ∧ (Q (.bl (true)) H)
abbrev s_need_width : Stmt := top 8
theorem sc_need_width : FnScope ["width"] ["width"] (defScope s_need_width) := ⟨rfl, rfl, rfl, by decide +kernel, rfl, by decide +kernel, by decide +kernel⟩
def sp_need_width (K : PySem.W.Frag) : Sp := fun vs H Q E => ∃ (width : Int), vs = [.int width] ∧ (4 ≤ width) ∧ (width ≤ 32) ∧ (Q (.non) H)
abbrev s_is_between : Stmt := top 13
theorem sc_is_between : FnScope ["number", "least", "greatest"] ["number", "least", "greatest"] (defScope s_is_between) := ⟨rfl, rfl, rfl, by decide +kernel, rfl, by decide +kernel, by decide +kernel⟩
def sp_is_between (K : PySem.W.Frag) : Sp := fun vs H Q E => ∃ (number : Int) (least : Int) (greatest : Int), vs = [.int number, .int least, .int greatest] ∧ (least ≤ number) ∧ (number ≤ greatest) ∧ (Q (.bl (true)) H)
abbrev s_need_divisor : Stmt := top 14
theorem sc_need_divisor : FnScope ["width", "d"] ["width", "d"] (defScope s_need_divisor) := ⟨rfl, rfl, rfl, by decide +kernel, rfl, by decide +kernel, by decide +kernel⟩
def sp_need_divisor (K : PySem.W.Frag) : Sp := fun vs H Q E => ∃ (width : Int) (d : Int), vs = [.int width, .int d] ∧ (4 ≤ width) ∧ (width ≤ 32) ∧ (1 ≤ d) ∧ (d < 2 ^ width.toNat) ∧ (Q (.non) H)
abbrev s_cut : Stmt := top 9
theorem sc_cut : FnScope ["width", "number"] ["width", "number"] (defScope s_cut) := ⟨rfl, rfl, rfl, by decide +kernel, rfl, by decide +kernel, by decide +kernel⟩
def sp_cut (K : PySem.W.Frag) : Sp := fun vs H Q E => ∃ (width : Int) (number : Int), vs = [.int width, .int number] ∧ (4 ≤ width) ∧ (width ≤ 32) ∧ (∀ (r : Int), (r = number % 2 ^ width.toNat) → (0 ≤ r) → (r < 2 ^ width.toNat) → Q (.int (r)) H)
abbrev s_low_product : Stmt := top 11
theorem sc_low_product : FnScope ["width", "a", "b"] ["width", "a", "b"] (defScope s_low_product) := ⟨rfl, rfl, rfl, by decide +kernel, rfl, by decide +kernel, by decide +kernel⟩
def sp_low_product (K : PySem.W.Frag) : Sp := fun vs H Q E => ∃ (width : Int) (a : Int) (b : Int), vs = [.int width, .int a, .int b] ∧ (4 ≤ width) ∧ (width ≤ 32) ∧ (0 ≤ a) ∧ (a < 2 ^ width.toNat) ∧ (∀ (r : Int), (r = a * b % 2 ^ width.toNat) → (0 ≤ r) → (r < 2 ^ width.toNat) → Q (.int (r)) H)
abbrev s_gap_of : Stmt := top 10
theorem sc_gap_of : FnScope ["width", "a", "b"] ["width", "a", "b"] (defScope s_gap_of) := ⟨rfl, rfl, rfl, by decide +kernel, rfl, by decide +kernel, by decide +kernel⟩
def sp_gap_of (K : PySem.W.Frag) : Sp := fun vs H Q E => ∃ (width : Int) (a : Int) (b : Int), vs = [.int width, .int a, .int b] ∧ (4 ≤ width) ∧ (width ≤ 32) ∧ (∀ (x : Int), ∀ (y : Int), (x = (a - b) % 2 ^ width.toNat) → (0 ≤ x) → (x < 2 ^ width.toNat) → ∀ aq, H aq = none → Q (.ref aq) (upd H aq (.tup [.int (x), .int (y)])))
abbrev s_inverse_steps : Stmt := top 17
theorem sc_inverse_steps : FnScope ["width", "d", "steps", "product"] ["width", "d"] (defScope s_inverse_steps) := ⟨rfl, rfl, rfl, by decide +kernel, rfl, by decide +kernel, by decide +kernel⟩
def sp_inverse_steps (K : PySem.W.Frag) : Sp := fun vs H Q E => ∃ (width : Int) (d : Int), vs = [.int width, .int d] ∧ (4 ≤ width) ∧ (width ≤ 32) ∧ (1 ≤ d) ∧ (d < 2 ^ width.toNat) ∧ (d % 2 = 1) ∧ (∀ (xs : List Int), (Ow.Stp width d xs) → (xs.length ≤ 5) → (0 < xs.length) → (∀ l, xs.getLast? = some l → l * d % 2 ^ width.toNat = 1) → ∀ aq H', Same H H' → H aq = none → H' aq = some (.lst (xs.map V.int)) → Q (.ref aq) H')
abbrev s_inverse : Stmt := top 18
theorem sc_inverse : FnScope ["width", "d"] ["width", "d"] (defScope s_inverse) := ⟨rfl, rfl, rfl, by decide +kernel, rfl, by decide +kernel, by decide +kernel⟩
def sp_inverse (K : PySem.W.Frag) : Sp := fun vs H Q E => ∃ (width : Int) (d : Int), vs = [.int width, .int d] ∧ (4 ≤ width) ∧ (width ≤ 32) ∧ (1 ≤ d) ∧ (d < 2 ^ width.toNat) ∧ (d % 2 = 1) ∧ (∀ (r : Int), (0 ≤ r) → (r < 2 ^ width.toNat) → (r * d % 2 ^ width.toNat = 1) → ∀ H', Same H H' → Q (.int (r)) H')
abbrev s_l_draw : Stmt := top 21
theorem sc_l_draw : FnScope ["_law_state", "_law_size", "_law_number", "_law_one", "_law_two"] ["_law_state", "_law_size"] (defScope s_l_draw) := ⟨rfl, rfl, rfl, by decide +kernel, rfl, by decide +kernel, by decide +kernel⟩
def sp_l_draw (K : PySem.W.Frag) : Sp := fun vs H Q E => ∃ (box : Addr) (size : Int) (a : Int) (c : Int), vs = [.ref box, .int size] ∧ H box = some (.lst [.int (a), .int (c)]) ∧ (0 < size) ∧ (size ≤ 18446744073709551616) ∧ (∀ (r : Int), ∀ (a2 : Int), ∀ (c2 : Int), (0 ≤ r) → (r < size) → Q (.int (r)) (upd H box (.lst [.int (a2), .int (c2)])))
abbrev s_l_divisor : Stmt := top 23
theorem sc_l_divisor : FnScope ["_law_state", "_law_width", "_law_last", "_law_kind", "_law_half"] ["_law_state", "_law_width"] (defScope s_l_divisor) := ⟨rfl, rfl, rfl, by decide +kernel, rfl, by decide +kernel, by decide +kernel⟩
def sp_l_divisor (K : PySem.W.Frag) : Sp := fun vs H Q E => ∃ (box : Addr) (width : Int) (a : Int) (c : Int), vs = [.ref box, .int width] ∧ H box = some (.lst [.int (a), .int (c)]) ∧ (4 ≤ width) ∧ (width ≤ 32) ∧ (∀ (r : Int), ∀ (a2 : Int), ∀ (c2 : Int), (1 ≤ r) → (r < 2 ^ width.toNat) → Q (.int (r)) (upd H box (.lst [.int (a2), .int (c2)])))
abbrev s_l_whole : Stmt := top 24
theorem sc_l_whole : FnScope ["_law_found"] ["_law_found"] (defScope s_l_whole) := ⟨rfl, rfl, rfl, by decide +kernel, rfl, by decide +kernel, by decide +kernel⟩
def sp_l_whole (K : PySem.W.Frag) : Sp := fun vs H Q E => ∃ (found : Int), vs = [.int found] ∧ (Q (.bl (true)) H)
abbrev s_l_steps_right : Stmt := top 25
theorem sc_l_steps_right : FnScope ["_law_width", "_law_d", "_law_steps", "_law_j", "_law_i"] ["_law_width", "_law_d", "_law_steps"] (defScope s_l_steps_right) := ⟨rfl, rfl, rfl, by decide +kernel, rfl, by decide +kernel, by decide +kernel⟩
def sp_l_steps_right (K : PySem.W.Frag) : Sp := fun vs H Q E => ∃ (width : Int) (d : Int) (steps : Addr) (xs : List Int), vs = [.int width, .int d, .ref steps] ∧ H steps = some (.lst (xs.map V.int)) ∧ (4 ≤ width) ∧ (width ≤ 32) ∧ (1 ≤ d) ∧ (d < 2 ^ width.toNat) ∧ (d % 2 = 1) ∧ (Ow.Stp width d xs) ∧ (xs.length ≤ 5) ∧ (0 < xs.length) ∧ (∀ l, xs.getLast? = some l → l * d % 2 ^ width.toNat = 1) ∧ (∀ H', Same H H' → Q (.bl (true)) H')
abbrev s_rest_of : Stmt := top 16
theorem sc_rest_of : FnScope ["width", "x", "d", "q"] ["width", "x", "d", "q"] (defScope s_rest_of) := ⟨rfl, rfl, rfl, by decide +kernel, rfl, by decide +kernel, by decide +kernel⟩
def sp_rest_of (K : PySem.W.Frag) : Sp := fun vs H Q E => ∃ (width : Int) (x : Int) (d : Int) (q : Int), vs = [.int width, .int x, .int d, .int q] ∧ (4 ≤ width) ∧ (width ≤ 32) ∧ (1 ≤ d) ∧ (d < 2 ^ width.toNat) ∧ (0 ≤ q) ∧ (q < 2 ^ width.toNat) ∧ (∀ (r : Int), (r = (x - q * d) % 2 ^ width.toNat) → ∀ H', Same H H' → Q (.int (r)) H')
abbrev s_l_rest_right : Stmt := top 26
theorem sc_l_rest_right : FnScope ["_law_width", "_law_x", "_law_d", "_law_q", "_law_found"] ["_law_width", "_law_x", "_law_d", "_law_q"] (defScope s_l_rest_right) := ⟨rfl, rfl, rfl, by decide +kernel, rfl, by decide +kernel, by decide +kernel⟩
def sp_l_rest_right (K : PySem.W.Frag) : Sp := fun vs H Q E => ∃ (width : Int) (x : Int) (d : Int) (q : Int), vs = [.int width, .int x, .int d, .int q] ∧ (4 ≤ width) ∧ (width ≤ 32) ∧ (1 ≤ d) ∧ (d < 2 ^ width.toNat) ∧ (0 ≤ q) ∧ (q < 2 ^ width.toNat) ∧ (∀ H', Same H H' → Q (.bl (true)) H')
abbrev s_l_case : Stmt := top 27
theorem sc_l_case : FnScope ["_law_state", "_law_width", "_law_d", "_law_first", "_law_steps", "_law_x"] ["_law_state"] (defScope s_l_case) := ⟨rfl, rfl, rfl, by decide +kernel, rfl, by decide +kernel, by decide +kernel⟩
def sp_l_case (K : PySem.W.Frag) : Sp := fun vs H Q E => ∃ (box : Addr) (a : Int) (c : Int), vs = [.ref box] ∧ H box = some (.lst [.int (a), .int (c)]) ∧ (∀ (a2 : Int), ∀ (c2 : Int), ∀ H', Ow.Fm box H H' → H' box = some (.lst [.int (a2), .int (c2)]) → Q (.bl (true)) H')
abbrev s_l_start : Stmt := top 20
theorem sc_l_start : FnScope ["_law_script", "_law_k", "_law_cell", "_law_number"] ["_law_script", "_law_k"] (defScope s_l_start) := ⟨rfl, rfl, rfl, by decide +kernel, rfl, by decide +kernel, by decide +kernel⟩
def sp_l_start (K : PySem.W.Frag) : Sp := fun vs H Q E => ∃ (script : Addr) (k : Int) (ns : List Int), vs = [.ref script, .int k] ∧ SqL K H script (ns.map V.int) ∧ (0 ≤ k) ∧ (∀ (a : Int), ∀ (c : Int), ∀ aq H', Same H H' → H aq = none → H' aq = some (.lst [.int (a), .int (c)]) → Q (.ref aq) H')
abbrev s_law : Stmt := top 28
theorem sc_law : FnScope ["_law_script", "_law_k"] ["_law_script"] (defScope s_law) := ⟨rfl, rfl, rfl, by decide +kernel, rfl, by decide +kernel, by decide +kernel⟩
def sp_law (K : PySem.W.Frag) : Sp := fun vs H Q E => ∃ (script : Addr) (ns : List Int), vs = [.ref script] ∧ SqL K H script (ns.map V.int) ∧ (ns.length ≤ 63) ∧ (∀ H', Same H H' → Q (.bl (true)) H')
structure Tx (K : PySem.W.Frag) (mg : Str → Option Value) : Type where
  d_is_whole : Ow.Dk K mg "is_whole" "is_whole" s_is_whole ["thing"]
  d_need_width : Ow.Dk K mg "need_width" "need_width" s_need_width ["width"]
  d_is_between : Ow.Dk K mg "is_between" "is_between" s_is_between ["number", "least", "greatest"]
  d_need_divisor : Ow.Dk K mg "need_divisor" "need_divisor" s_need_divisor ["width", "d"]
  d_cut : Ow.Dk K mg "cut" "cut" s_cut ["width", "number"]
  d_low_product : Ow.Dk K mg "low_product" "low_product" s_low_product ["width", "a", "b"]
  d_gap_of : Ow.Dk K mg "gap_of" "gap_of" s_gap_of ["width", "a", "b"]
  d_inverse_steps : Ow.Dk K mg "inverse_steps" "inverse_steps" s_inverse_steps ["width", "d"]
  d_inverse : Ow.Dk K mg "inverse" "inverse" s_inverse ["width", "d"]
  d_l_draw : Ow.Dk K mg "_law_draw" "_law_draw" s_l_draw ["_law_state", "_law_size"]
  d_l_divisor : Ow.Dk K mg "_law_divisor" "_law_divisor" s_l_divisor ["_law_state", "_law_width"]
  d_l_whole : Ow.Dk K mg "_law_whole" "_law_whole" s_l_whole ["_law_found"]
  d_l_steps_right : Ow.Dk K mg "_law_steps_right" "_law_steps_right" s_l_steps_right ["_law_width", "_law_d", "_law_steps"]
  d_rest_of : Ow.Dk K mg "rest_of" "rest_of" s_rest_of ["width", "x", "d", "q"]
  d_l_rest_right : Ow.Dk K mg "_law_rest_right" "_law_rest_right" s_l_rest_right ["_law_width", "_law_x", "_law_d", "_law_q"]
  d_l_case : Ow.Dk K mg "_law_case" "_law_case" s_l_case ["_law_state"]
  d_l_start : Ow.Dk K mg "_law_start" "_law_start" s_l_start ["_law_script", "_law_k"]
  d_law : Ow.Dk K mg "law" "law" s_law ["_law_script"]
  g_LEAST_WIDTH : ∃ t, mg "LEAST_WIDTH" = some (.int 4 t)
  g_GREATEST_WIDTH : ∃ t, mg "GREATEST_WIDTH" = some (.int 32 t)
  z_isinstance : mg "isinstance" = none
  z_bool : mg "bool" = none
  z_int : mg "int" = none
  z_len : mg "len" = none
  z_list : mg "list" = none
  z_range : mg "range" = none
  z_min : mg "min" = none
  z_max : mg "max" = none
section
variable {P : Program} {w : World} {K : PySem.W.Frag} {mg : Str → Option Value} {base : Heap}
theorem ok_is_whole (T : Tx K mg) : FnOk P w K mg base CX0 1 T.d_is_whole.f T.d_is_whole.fd ["thing"] (sp_is_whole K) := by
  refine T.d_is_whole.F.ok sc_is_whole (fun vs H Q E h => ?_) (fun cdv A outer s H vs Q E hr h => ?_)
  · obtain ⟨thing, rfl, _⟩ := h
    rfl
  · obtain ⟨thing, rfl, kont⟩ := h
    refine ⟨_, (pss_one (ps_ret (pe_and (pe_callB call_isi (by rfl) T.z_isinstance (by decide +kernel) (pa_cons (pv 0) (pa_cons (pe_bltn (v := .ty "int") (by rfl) T.z_int (by decide +kernel) rfl) pa_nil))) (pe_one (pe_not (pe_callB call_isi (by rfl) T.z_isinstance (by decide +kernel) (pa_cons (pv 0) (pa_cons (pe_bltn (v := .ty "bool") (by rfl) T.z_bool (by decide +kernel) rfl) pa_nil)))))))), ?_⟩
    refine ⟨_, rfl, ?_⟩
    refine ⟨_, _, _, _, true, rfl, .ty _, .base (.int _), kit_ty (by decide +kernel), ?_⟩
    refine ⟨_, rfl, ?_⟩
    refine iteT ?_
    refine ⟨_, rfl, ?_⟩
    refine ⟨_, _, _, _, false, rfl, .ty _, .base (.int _), kit_ty (by decide +kernel), ?_⟩
    refine ⟨_, rfl, ?_⟩
    exact kont
theorem ok_need_width (T : Tx K mg) : FnOk P w K mg base CX0 2 T.d_need_width.f T.d_need_width.fd ["width"] (sp_need_width K) := by
  refine T.d_need_width.F.ok sc_need_width (fun vs H Q E h => ?_) (fun cdv A outer s H vs Q E hr h => ?_)
  · obtain ⟨width, rfl, _⟩ := h
    rfl
  · obtain ⟨width, rfl, c0, c1, kont⟩ := h
    have p32_width := Ow.pow2_le32 (w := width) (by omega)
    have p0_width := Ow.p2 width.toNat
    refine ⟨_, (pss_one (ps_if (PW.pt (pw_or (pt_not (pt_val (pe_call (Ow.ok_is_whole T) (hr.mono (by decide : 1 ≤ 1)) (by rfl) T.d_is_whole.m T.d_is_whole.F.kp T.d_is_whole.b .nil pass0 (pa_cons (pv 0) pa_nil)))) (pw_or1 (pt_not (pt_chain op_le op_le (pe_glob (v := .int (4)) rfl T.g_LEAST_WIDTH.choose_spec ⟨_, rfl⟩) (pv 0) (pe_glob (v := .int (32)) rfl T.g_GREATEST_WIDTH.choose_spec ⟨_, rfl⟩)))))) (pss_one ps_never) pss_nil)), ?_⟩
    refine ⟨_, rfl, ?_⟩
    refine ⟨_, rfl, ?_⟩
    refine ⟨_, rfl, ?_⟩
    refine iteF ?_
    refine ⟨_, rfl, ?_⟩
    refine ⟨_, _, rfl, rfl, ?_⟩
    refine ⟨_, rfl, ?_⟩
    refine Ow.ifd (fun h1 => ?_) (fun h1 => ?_)
    · refine ⟨_, _, rfl, rfl, ?_⟩
      refine ⟨_, rfl, ?_⟩
      refine Ow.ifnd (fun h2 => ?_) (fun h2 => ?_)
      · exact ((by first | assumption | exact Ow.divw64 (by omega) (by omega) | exact Ow.mul0 ⟨by omega, by omega⟩ | exact Ow.mul1 ⟨by omega, by omega⟩ | exact Ow.shl0 (by omega) (by omega) (by omega) | exact ⟨by omega, by omega⟩ | exact ⟨by omega, by omega, by omega⟩ | omega | (simp only [List.length_append, List.length_cons, List.length_nil]; omega) | (subst_vars; omega)) : False).elim
      · exact kont
    · refine ⟨_, rfl, ?_⟩
      refine iteT ?_
      exact ((by first | assumption | exact Ow.divw64 (by omega) (by omega) | exact Ow.mul0 ⟨by omega, by omega⟩ | exact Ow.mul1 ⟨by omega, by omega⟩ | exact Ow.shl0 (by omega) (by omega) (by omega) | exact ⟨by omega, by omega⟩ | exact ⟨by omega, by omega, by omega⟩ | omega | (simp only [List.length_append, List.length_cons, List.length_nil]; omega) | (subst_vars; omega)) : False).elim
theorem ok_is_between (T : Tx K mg) : FnOk P w K mg base CX0 2 T.d_is_between.f T.d_is_between.fd ["number", "least", "greatest"] (sp_is_between K) := by
  refine T.d_is_between.F.ok sc_is_between (fun vs H Q E h => ?_) (fun cdv A outer s H vs Q E hr h => ?_)
  · obtain ⟨number, least, greatest, rfl, _⟩ := h
    rfl
  · obtain ⟨number, least, greatest, rfl, c0, c1, kont⟩ := h
    refine ⟨_, (pss_one (ps_ret (pe_and (pe_call (Ow.ok_is_whole T) (hr.mono (by decide : 1 ≤ 1)) (by rfl) T.d_is_whole.m T.d_is_whole.F.kp T.d_is_whole.b .nil pass0 (pa_cons (pv 0) pa_nil)) (pe_one (pe_chain op_le op_le (pv 1) (pv 0) (pv 2)))))), ?_⟩
    refine ⟨_, rfl, ?_⟩
    refine ⟨_, rfl, ?_⟩
    refine ⟨_, rfl, ?_⟩
    refine iteT ?_
    refine ⟨_, rfl, ?_⟩
    refine ⟨_, rfl, ?_⟩
    refine ⟨_, _, rfl, rfl, ?_⟩
    refine ⟨_, rfl, ?_⟩
    refine Ow.ifd (fun h1 => ?_) (fun h1 => ?_)
    · refine ⟨_, rfl, ?_⟩
      refine ⟨_, _, rfl, rfl, ?_⟩
      refine Ow.eqd (by first | assumption | exact Ow.divw64 (by omega) (by omega) | exact Ow.mul0 ⟨by omega, by omega⟩ | exact Ow.mul1 ⟨by omega, by omega⟩ | exact Ow.shl0 (by omega) (by omega) (by omega) | exact ⟨by omega, by omega⟩ | exact ⟨by omega, by omega, by omega⟩ | omega | (simp only [List.length_append, List.length_cons, List.length_nil]; omega) | (subst_vars; omega)) ?_
      exact kont
    · exact ((by first | assumption | exact Ow.divw64 (by omega) (by omega) | exact Ow.mul0 ⟨by omega, by omega⟩ | exact Ow.mul1 ⟨by omega, by omega⟩ | exact Ow.shl0 (by omega) (by omega) (by omega) | exact ⟨by omega, by omega⟩ | exact ⟨by omega, by omega, by omega⟩ | omega | (simp only [List.length_append, List.length_cons, List.length_nil]; omega) | (subst_vars; omega)) : False).elim
theorem ok_need_divisor (T : Tx K mg) : FnOk P w K mg base CX0 3 T.d_need_divisor.f T.d_need_divisor.fd ["width", "d"] (sp_need_divisor K) := by
  refine T.d_need_divisor.F.ok sc_need_divisor (fun vs H Q E h => ?_) (fun cdv A outer s H vs Q E hr h => ?_)
  · obtain ⟨width, d, rfl, _⟩ := h
    rfl
  · obtain ⟨width, d, rfl, c0, c1, c2, c3, kont⟩ := h
    have p32_width := Ow.pow2_le32 (w := width) (by omega)
    have p0_width := Ow.p2 width.toNat
    refine ⟨_, (pss_cons (ps_expr (pe_call (Ow.ok_need_width T) (hr.mono (by decide : 2 ≤ 2)) (by rfl) T.d_need_width.m T.d_need_width.F.kp T.d_need_width.b .nil pass0 (pa_cons (pv 0) pa_nil)))
        (pss_one (ps_if (pt_not (pt_val (pe_call (Ow.ok_is_between T) (hr.mono (by decide : 2 ≤ 2)) (by rfl) T.d_is_between.m T.d_is_between.F.kp T.d_is_between.b .nil pass0 (pa_cons (pv 1) (pa_cons pe_int (pa_cons (pe_op op_sub (pe_op Ow.op_shl1 pe_int (pv 0)) pe_int) pa_nil)))))) (pss_one ps_never) pss_nil))), ?_⟩
    refine ⟨_, rfl, ?_⟩
    refine ⟨_, rfl, (by first | assumption | exact Ow.divw64 (by omega) (by omega) | exact Ow.mul0 ⟨by omega, by omega⟩ | exact Ow.mul1 ⟨by omega, by omega⟩ | exact Ow.shl0 (by omega) (by omega) (by omega) | exact ⟨by omega, by omega⟩ | exact ⟨by omega, by omega, by omega⟩ | omega | (simp only [List.length_append, List.length_cons, List.length_nil]; omega) | (subst_vars; omega)), (by first | assumption | exact Ow.divw64 (by omega) (by omega) | exact Ow.mul0 ⟨by omega, by omega⟩ | exact Ow.mul1 ⟨by omega, by omega⟩ | exact Ow.shl0 (by omega) (by omega) (by omega) | exact ⟨by omega, by omega⟩ | exact ⟨by omega, by omega, by omega⟩ | omega | (simp only [List.length_append, List.length_cons, List.length_nil]; omega) | (subst_vars; omega)), ?_⟩
    refine ⟨_, rfl, ?_⟩
    refine ⟨_, rfl, ?_⟩
    refine ⟨_, rfl, rfl, (by first | assumption | exact Ow.divw64 (by omega) (by omega) | exact Ow.mul0 ⟨by omega, by omega⟩ | exact Ow.mul1 ⟨by omega, by omega⟩ | exact Ow.shl0 (by omega) (by omega) (by omega) | exact ⟨by omega, by omega⟩ | exact ⟨by omega, by omega, by omega⟩ | omega | (simp only [List.length_append, List.length_cons, List.length_nil]; omega) | (subst_vars; omega)), fun B h_B h0_B => ?_⟩
    refine ⟨_, _, rfl, rfl, ?_⟩
    refine ⟨_, _, _, rfl, (by first | assumption | exact Ow.divw64 (by omega) (by omega) | exact Ow.mul0 ⟨by omega, by omega⟩ | exact Ow.mul1 ⟨by omega, by omega⟩ | exact Ow.shl0 (by omega) (by omega) (by omega) | exact ⟨by omega, by omega⟩ | exact ⟨by omega, by omega, by omega⟩ | omega | (simp only [List.length_append, List.length_cons, List.length_nil]; omega) | (subst_vars; omega)), (by first | assumption | exact Ow.divw64 (by omega) (by omega) | exact Ow.mul0 ⟨by omega, by omega⟩ | exact Ow.mul1 ⟨by omega, by omega⟩ | exact Ow.shl0 (by omega) (by omega) (by omega) | exact ⟨by omega, by omega⟩ | exact ⟨by omega, by omega, by omega⟩ | omega | (simp only [List.length_append, List.length_cons, List.length_nil]; omega) | (subst_vars; omega)), ?_⟩
    refine ⟨_, rfl, ?_⟩
    refine iteF ?_
    exact kont
theorem ok_cut (T : Tx K mg) : FnOk P w K mg base CX0 1 T.d_cut.f T.d_cut.fd ["width", "number"] (sp_cut K) := by
  refine T.d_cut.F.ok sc_cut (fun vs H Q E h => ?_) (fun cdv A outer s H vs Q E hr h => ?_)
  · obtain ⟨width, number, rfl, _⟩ := h
    rfl
  · obtain ⟨width, number, rfl, c0, c1, kont⟩ := h
    have p32_width := Ow.pow2_le32 (w := width) (by omega)
    have p0_width := Ow.p2 width.toNat
    refine ⟨_, (pss_one (ps_ret (pe_op Ow.op_mask (pv 1) (pe_op op_sub (pe_op Ow.op_shl1 pe_int (pv 0)) pe_int)))), ?_⟩
    refine ⟨_, rfl, ?_⟩
    refine ⟨_, rfl, ?_⟩
    refine ⟨_, rfl, rfl, (by first | assumption | exact Ow.divw64 (by omega) (by omega) | exact Ow.mul0 ⟨by omega, by omega⟩ | exact Ow.mul1 ⟨by omega, by omega⟩ | exact Ow.shl0 (by omega) (by omega) (by omega) | exact ⟨by omega, by omega⟩ | exact ⟨by omega, by omega, by omega⟩ | omega | (simp only [List.length_append, List.length_cons, List.length_nil]; omega) | (subst_vars; omega)), fun B h_B h0_B => ?_⟩
    refine ⟨_, _, rfl, rfl, ?_⟩
    refine ⟨_, _, width.toNat, rfl, rfl, (by first | assumption | exact Ow.divw64 (by omega) (by omega) | exact Ow.mul0 ⟨by omega, by omega⟩ | exact Ow.mul1 ⟨by omega, by omega⟩ | exact Ow.shl0 (by omega) (by omega) (by omega) | exact ⟨by omega, by omega⟩ | exact ⟨by omega, by omega, by omega⟩ | omega | (simp only [List.length_append, List.length_cons, List.length_nil]; omega) | (subst_vars; omega)), fun r h_r h0_r h1_r => ?_⟩
    exact kont r (by first | assumption | exact Ow.divw64 (by omega) (by omega) | exact Ow.mul0 ⟨by omega, by omega⟩ | exact Ow.mul1 ⟨by omega, by omega⟩ | exact Ow.shl0 (by omega) (by omega) (by omega) | exact ⟨by omega, by omega⟩ | exact ⟨by omega, by omega, by omega⟩ | omega | (simp only [List.length_append, List.length_cons, List.length_nil]; omega) | (subst_vars; omega)) (by first | assumption | exact Ow.divw64 (by omega) (by omega) | exact Ow.mul0 ⟨by omega, by omega⟩ | exact Ow.mul1 ⟨by omega, by omega⟩ | exact Ow.shl0 (by omega) (by omega) (by omega) | exact ⟨by omega, by omega⟩ | exact ⟨by omega, by omega, by omega⟩ | omega | (simp only [List.length_append, List.length_cons, List.length_nil]; omega) | (subst_vars; omega)) (by first | assumption | exact Ow.divw64 (by omega) (by omega) | exact Ow.mul0 ⟨by omega, by omega⟩ | exact Ow.mul1 ⟨by omega, by omega⟩ | exact Ow.shl0 (by omega) (by omega) (by omega) | exact ⟨by omega, by omega⟩ | exact ⟨by omega, by omega, by omega⟩ | omega | (simp only [List.length_append, List.length_cons, List.length_nil]; omega) | (subst_vars; omega))
theorem ok_low_product (T : Tx K mg) : FnOk P w K mg base CX0 3 T.d_low_product.f T.d_low_product.fd ["width", "a", "b"] (sp_low_product K) := by
  refine T.d_low_product.F.ok sc_low_product (fun vs H Q E h => ?_) (fun cdv A outer s H vs Q E hr h => ?_)
  · obtain ⟨width, a, b, rfl, _⟩ := h
    rfl
  · obtain ⟨width, a, b, rfl, c0, c1, c2, c3, kont⟩ := h
    have p32_width := Ow.pow2_le32 (w := width) (by omega)
    have p0_width := Ow.p2 width.toNat
    refine ⟨_, (pss_cons (ps_expr (pe_call (Ow.ok_need_width T) (hr.mono (by decide : 2 ≤ 2)) (by rfl) T.d_need_width.m T.d_need_width.F.kp T.d_need_width.b .nil pass0 (pa_cons (pv 0) pa_nil)))
        (pss_one (ps_ret (pe_call (Ow.ok_cut T) (hr.mono (by decide : 1 ≤ 2)) (by rfl) T.d_cut.m T.d_cut.F.kp T.d_cut.b .nil pass0 (pa_cons (pv 0) (pa_cons (pe_op Ow.op_mulN (pv 1) (pv 2)) pa_nil)))))), ?_⟩
    refine ⟨_, rfl, ?_⟩
    refine ⟨_, rfl, (by first | assumption | exact Ow.divw64 (by omega) (by omega) | exact Ow.mul0 ⟨by omega, by omega⟩ | exact Ow.mul1 ⟨by omega, by omega⟩ | exact Ow.shl0 (by omega) (by omega) (by omega) | exact ⟨by omega, by omega⟩ | exact ⟨by omega, by omega, by omega⟩ | omega | (simp only [List.length_append, List.length_cons, List.length_nil]; omega) | (subst_vars; omega)), (by first | assumption | exact Ow.divw64 (by omega) (by omega) | exact Ow.mul0 ⟨by omega, by omega⟩ | exact Ow.mul1 ⟨by omega, by omega⟩ | exact Ow.shl0 (by omega) (by omega) (by omega) | exact ⟨by omega, by omega⟩ | exact ⟨by omega, by omega, by omega⟩ | omega | (simp only [List.length_append, List.length_cons, List.length_nil]; omega) | (subst_vars; omega)), ?_⟩
    refine ⟨_, rfl, ?_⟩
    refine ⟨_, rfl, ?_⟩
    refine ⟨_, rfl, ?_⟩
    refine ⟨_, _, rfl, rfl, (by first | assumption | exact Ow.divw64 (by omega) (by omega) | exact Ow.mul0 ⟨by omega, by omega⟩ | exact Ow.mul1 ⟨by omega, by omega⟩ | exact Ow.shl0 (by omega) (by omega) (by omega) | exact ⟨by omega, by omega⟩ | exact ⟨by omega, by omega, by omega⟩ | omega | (simp only [List.length_append, List.length_cons, List.length_nil]; omega) | (subst_vars; omega)), fun m h_m => ?_⟩
    refine ⟨_, _, rfl, (by first | assumption | exact Ow.divw64 (by omega) (by omega) | exact Ow.mul0 ⟨by omega, by omega⟩ | exact Ow.mul1 ⟨by omega, by omega⟩ | exact Ow.shl0 (by omega) (by omega) (by omega) | exact ⟨by omega, by omega⟩ | exact ⟨by omega, by omega, by omega⟩ | omega | (simp only [List.length_append, List.length_cons, List.length_nil]; omega) | (subst_vars; omega)), (by first | assumption | exact Ow.divw64 (by omega) (by omega) | exact Ow.mul0 ⟨by omega, by omega⟩ | exact Ow.mul1 ⟨by omega, by omega⟩ | exact Ow.shl0 (by omega) (by omega) (by omega) | exact ⟨by omega, by omega⟩ | exact ⟨by omega, by omega, by omega⟩ | omega | (simp only [List.length_append, List.length_cons, List.length_nil]; omega) | (subst_vars; omega)), fun t h1 h2 h3 => ?_⟩
    exact kont t (by first | assumption | exact Ow.divw64 (by omega) (by omega) | exact Ow.mul0 ⟨by omega, by omega⟩ | exact Ow.mul1 ⟨by omega, by omega⟩ | exact Ow.shl0 (by omega) (by omega) (by omega) | exact ⟨by omega, by omega⟩ | exact ⟨by omega, by omega, by omega⟩ | omega | (simp only [List.length_append, List.length_cons, List.length_nil]; omega) | (subst_vars; omega)) (by first | assumption | exact Ow.divw64 (by omega) (by omega) | exact Ow.mul0 ⟨by omega, by omega⟩ | exact Ow.mul1 ⟨by omega, by omega⟩ | exact Ow.shl0 (by omega) (by omega) (by omega) | exact ⟨by omega, by omega⟩ | exact ⟨by omega, by omega, by omega⟩ | omega | (simp only [List.length_append, List.length_cons, List.length_nil]; omega) | (subst_vars; omega)) (by first | assumption | exact Ow.divw64 (by omega) (by omega) | exact Ow.mul0 ⟨by omega, by omega⟩ | exact Ow.mul1 ⟨by omega, by omega⟩ | exact Ow.shl0 (by omega) (by omega) (by omega) | exact ⟨by omega, by omega⟩ | exact ⟨by omega, by omega, by omega⟩ | omega | (simp only [List.length_append, List.length_cons, List.length_nil]; omega) | (subst_vars; omega))
theorem ok_gap_of (T : Tx K mg) : FnOk P w K mg base CX0 3 T.d_gap_of.f T.d_gap_of.fd ["width", "a", "b"] (sp_gap_of K) := by
  refine T.d_gap_of.F.ok sc_gap_of (fun vs H Q E h => ?_) (fun cdv A outer s H vs Q E hr h => ?_)
  · obtain ⟨width, a, b, rfl, _⟩ := h
    rfl
  · obtain ⟨width, a, b, rfl, c0, c1, kont⟩ := h
    have p32_width := Ow.pow2_le32 (w := width) (by omega)
    have p0_width := Ow.p2 width.toNat
    refine ⟨_, (pss_cons (ps_expr (pe_call (Ow.ok_need_width T) (hr.mono (by decide : 2 ≤ 2)) (by rfl) T.d_need_width.m T.d_need_width.F.kp T.d_need_width.b .nil pass0 (pa_cons (pv 0) pa_nil)))
        (pss_one (ps_ret (pe_tup (pa_cons (pe_call (Ow.ok_cut T) (hr.mono (by decide : 1 ≤ 2)) (by rfl) T.d_cut.m T.d_cut.F.kp T.d_cut.b .nil pass0 (pa_cons (pv 0) (pa_cons (pe_op op_sub (pv 1) (pv 2)) pa_nil))) (pa_cons (pe_callTy Ow.call_intb (by rfl) T.z_int (by decide +kernel) (pa_cons (pe_cmpR op_lt (pv 1) (pv 2) (nomark _)) pa_nil)) pa_nil)))))), ?_⟩
    refine ⟨_, rfl, ?_⟩
    refine ⟨_, rfl, (by first | assumption | exact Ow.divw64 (by omega) (by omega) | exact Ow.mul0 ⟨by omega, by omega⟩ | exact Ow.mul1 ⟨by omega, by omega⟩ | exact Ow.shl0 (by omega) (by omega) (by omega) | exact ⟨by omega, by omega⟩ | exact ⟨by omega, by omega, by omega⟩ | omega | (simp only [List.length_append, List.length_cons, List.length_nil]; omega) | (subst_vars; omega)), (by first | assumption | exact Ow.divw64 (by omega) (by omega) | exact Ow.mul0 ⟨by omega, by omega⟩ | exact Ow.mul1 ⟨by omega, by omega⟩ | exact Ow.shl0 (by omega) (by omega) (by omega) | exact ⟨by omega, by omega⟩ | exact ⟨by omega, by omega, by omega⟩ | omega | (simp only [List.length_append, List.length_cons, List.length_nil]; omega) | (subst_vars; omega)), ?_⟩
    refine ⟨_, rfl, ?_⟩
    refine ⟨_, rfl, ?_⟩
    refine ⟨_, rfl, ?_⟩
    refine ⟨_, _, rfl, rfl, ?_⟩
    refine ⟨_, _, rfl, (by first | assumption | exact Ow.divw64 (by omega) (by omega) | exact Ow.mul0 ⟨by omega, by omega⟩ | exact Ow.mul1 ⟨by omega, by omega⟩ | exact Ow.shl0 (by omega) (by omega) (by omega) | exact ⟨by omega, by omega⟩ | exact ⟨by omega, by omega, by omega⟩ | omega | (simp only [List.length_append, List.length_cons, List.length_nil]; omega) | (subst_vars; omega)), (by first | assumption | exact Ow.divw64 (by omega) (by omega) | exact Ow.mul0 ⟨by omega, by omega⟩ | exact Ow.mul1 ⟨by omega, by omega⟩ | exact Ow.shl0 (by omega) (by omega) (by omega) | exact ⟨by omega, by omega⟩ | exact ⟨by omega, by omega, by omega⟩ | omega | (simp only [List.length_append, List.length_cons, List.length_nil]; omega) | (subst_vars; omega)), fun t h1 h2 h3 => ?_⟩
    refine ⟨_, rfl, ?_⟩
    refine ⟨_, rfl, ?_⟩
    refine ⟨_, _, rfl, rfl, ?_⟩
    refine ⟨_, rfl, fun n h_n => ?_⟩
    simp only [decide_eq_true_eq, decide_eq_false_iff_not] at h_n
    refine ⟨by show 2 ≤ sizeLine; decide, fun p h_p => ?_⟩
    exact kont t n (by first | assumption | exact Ow.divw64 (by omega) (by omega) | exact Ow.mul0 ⟨by omega, by omega⟩ | exact Ow.mul1 ⟨by omega, by omega⟩ | exact Ow.shl0 (by omega) (by omega) (by omega) | exact ⟨by omega, by omega⟩ | exact ⟨by omega, by omega, by omega⟩ | omega | (simp only [List.length_append, List.length_cons, List.length_nil]; omega) | (subst_vars; omega)) (by first | assumption | exact Ow.divw64 (by omega) (by omega) | exact Ow.mul0 ⟨by omega, by omega⟩ | exact Ow.mul1 ⟨by omega, by omega⟩ | exact Ow.shl0 (by omega) (by omega) (by omega) | exact ⟨by omega, by omega⟩ | exact ⟨by omega, by omega, by omega⟩ | omega | (simp only [List.length_append, List.length_cons, List.length_nil]; omega) | (subst_vars; omega)) (by first | assumption | exact Ow.divw64 (by omega) (by omega) | exact Ow.mul0 ⟨by omega, by omega⟩ | exact Ow.mul1 ⟨by omega, by omega⟩ | exact Ow.shl0 (by omega) (by omega) (by omega) | exact ⟨by omega, by omega⟩ | exact ⟨by omega, by omega, by omega⟩ | omega | (simp only [List.length_append, List.length_cons, List.length_nil]; omega) | (subst_vars; omega)) _ h_p
theorem ok_inverse_steps (T : Tx K mg) : FnOk P w K mg base CX0 4 T.d_inverse_steps.f T.d_inverse_steps.fd ["width", "d"] (sp_inverse_steps K) := by
  refine T.d_inverse_steps.F.ok sc_inverse_steps (fun vs H Q E h => ?_) (fun cdv A outer s H vs Q E hr h => ?_)
  · obtain ⟨width, d, rfl, _⟩ := h
    rfl
  · obtain ⟨width, d, rfl, c0, c1, c2, c3, c4, kont⟩ := h
    have p32_width := Ow.pow2_le32 (w := width) (by omega)
    have p0_width := Ow.p2 width.toNat
    have hM := Ow.pow_gt1 (w := width) (by omega)
    refine ⟨_, (pss_cons (ps_expr (pe_call (Ow.ok_need_divisor T) (hr.mono (by decide : 3 ≤ 3)) (by rfl) T.d_need_divisor.m T.d_need_divisor.F.kp T.d_need_divisor.b .nil pass0 (pa_cons (pv 0) (pa_cons (pv 1) pa_nil))))
        (pss_cons (ps_if (pt_cmpR op_eq (pe_op Ow.op_mask (pv 1) pe_int) pe_int (nomark _)) (pss_one ps_never) pss_nil)
        (pss_cons (ps_set (i := 2) sc_inverse_steps.nd rfl (Or.inl rfl) (pe_lst (pa_cons (pv 1) pa_nil)))
        (pss_cons (ps_set (i := 3) sc_inverse_steps.nd rfl (Or.inl rfl) (pe_call (Ow.ok_low_product T) (hr.mono (by decide : 3 ≤ 3)) (by rfl) T.d_low_product.m T.d_low_product.F.kp T.d_low_product.b .nil pass0 (pa_cons (pv 0) (pa_cons (pv 1) (pa_cons (pv 1) pa_nil)))))
        (pss_cons (ps_while PassesOwn.never (pt_cmpR op_ne (pv 3) pe_int (nomark _)) (pss_cons (ps_expr (pe_bm PySem.F.plainAttrs_list PySem.F.slot_list_append PySem.F.type_list_append mt_append (pv 2) (pa_cons (pe_call (Ow.ok_low_product T) (hr.mono (by decide : 3 ≤ 3)) (by rfl) T.d_low_product.m T.d_low_product.F.kp T.d_low_product.b .nil pass0 (pa_cons (pv 0) (pa_cons (pe_ix ix_list (pv 2) (Ow.pe_lit (-1) (pe_un un_neg pe_int)) (fun _ _ => rfl)) (pa_cons (pe_ix ix_tup (pe_call (Ow.ok_gap_of T) (hr.mono (by decide : 3 ≤ 3)) (by rfl) T.d_gap_of.m T.d_gap_of.F.kp T.d_gap_of.b .nil pass0 (pa_cons (pv 0) (pa_cons pe_int (pa_cons (pv 3) pa_nil)))) pe_int (fun _ _ => rfl)) pa_nil)))) pa_nil)))
        (pss_one (ps_set (i := 3) sc_inverse_steps.nd rfl (Or.inl rfl) (pe_call (Ow.ok_low_product T) (hr.mono (by decide : 3 ≤ 3)) (by rfl) T.d_low_product.m T.d_low_product.F.kp T.d_low_product.b .nil pass0 (pa_cons (pv 0) (pa_cons (pe_ix ix_list (pv 2) (Ow.pe_lit (-1) (pe_un un_neg pe_int)) (fun _ _ => rfl)) (pa_cons (pv 1) pa_nil))))))))
        (pss_one (ps_ret (pv 2)))))))), ?_⟩
    refine ⟨_, rfl, ?_⟩
    refine ⟨_, rfl, ?_⟩
    refine ⟨_, _, rfl, (by first | assumption | exact Ow.divw64 (by omega) (by omega) | exact Ow.mul0 ⟨by omega, by omega⟩ | exact Ow.mul1 ⟨by omega, by omega⟩ | exact Ow.shl0 (by omega) (by omega) (by omega) | exact ⟨by omega, by omega⟩ | exact ⟨by omega, by omega, by omega⟩ | omega | (simp only [List.length_append, List.length_cons, List.length_nil]; omega) | (subst_vars; omega)), (by first | assumption | exact Ow.divw64 (by omega) (by omega) | exact Ow.mul0 ⟨by omega, by omega⟩ | exact Ow.mul1 ⟨by omega, by omega⟩ | exact Ow.shl0 (by omega) (by omega) (by omega) | exact ⟨by omega, by omega⟩ | exact ⟨by omega, by omega, by omega⟩ | omega | (simp only [List.length_append, List.length_cons, List.length_nil]; omega) | (subst_vars; omega)), (by first | assumption | exact Ow.divw64 (by omega) (by omega) | exact Ow.mul0 ⟨by omega, by omega⟩ | exact Ow.mul1 ⟨by omega, by omega⟩ | exact Ow.shl0 (by omega) (by omega) (by omega) | exact ⟨by omega, by omega⟩ | exact ⟨by omega, by omega, by omega⟩ | omega | (simp only [List.length_append, List.length_cons, List.length_nil]; omega) | (subst_vars; omega)), (by first | assumption | exact Ow.divw64 (by omega) (by omega) | exact Ow.mul0 ⟨by omega, by omega⟩ | exact Ow.mul1 ⟨by omega, by omega⟩ | exact Ow.shl0 (by omega) (by omega) (by omega) | exact ⟨by omega, by omega⟩ | exact ⟨by omega, by omega, by omega⟩ | omega | (simp only [List.length_append, List.length_cons, List.length_nil]; omega) | (subst_vars; omega)), ?_⟩
    refine ⟨_, rfl, ?_⟩
    refine ⟨_, _, 1, rfl, rfl, by decide, fun r (h_r : r = d % 2) h0_r (h1_r : r < 2) => ?_⟩
    refine ⟨rfl, ?_⟩
    refine ⟨_, rfl, ?_⟩
    refine Ow.ifeqi (fun h1 => ?_) (fun h1 => ?_)
    · exact ((by first | assumption | exact Ow.divw64 (by omega) (by omega) | exact Ow.mul0 ⟨by omega, by omega⟩ | exact Ow.mul1 ⟨by omega, by omega⟩ | exact Ow.shl0 (by omega) (by omega) (by omega) | exact ⟨by omega, by omega⟩ | exact ⟨by omega, by omega, by omega⟩ | omega | (simp only [List.length_append, List.length_cons, List.length_nil]; omega) | (subst_vars; omega)) : False).elim
    · refine ⟨_, rfl, ?_⟩
      refine ⟨by show 1 ≤ sizeLine; decide, fun p h_p => ?_⟩
      refine ⟨_, rfl, ?_⟩
      refine ⟨_, rfl, ?_⟩
      refine ⟨_, rfl, ?_⟩
      refine ⟨_, _, _, rfl, (by first | assumption | omega | exact (Ow.stp_last (by assumption) h_it).1 | exact (Ow.stp_last (by assumption) h_it).2 | exact (Ow.stp_last hS.2 h_it_2).1 | exact (Ow.stp_last hS.2 h_it_2).2), (by first | assumption | omega | exact (Ow.stp_last (by assumption) h_it).1 | exact (Ow.stp_last (by assumption) h_it).2 | exact (Ow.stp_last hS.2 h_it_2).1 | exact (Ow.stp_last hS.2 h_it_2).2), (by first | assumption | omega | exact (Ow.stp_last (by assumption) h_it).1 | exact (Ow.stp_last (by assumption) h_it).2 | exact (Ow.stp_last hS.2 h_it_2).1 | exact (Ow.stp_last hS.2 h_it_2).2), (by first | assumption | omega | exact (Ow.stp_last (by assumption) h_it).1 | exact (Ow.stp_last (by assumption) h_it).2 | exact (Ow.stp_last hS.2 h_it_2).1 | exact (Ow.stp_last hS.2 h_it_2).2), fun product h2 h3 h4 => ?_⟩
      obtain ⟨Wi, h5⟩ : ∃ W : Hp → Nat → L2.St → Hp → Prop, W = fun H0 m σ2 H2 => ∃ (xs : List Int) (l : Int) (pr : Int), m = 5 - xs.length ∧ σ2 = [some (.int (width)), some (.int (d)), some (.ref p), some (.int (pr))] ∧ Ow.Fm p H0 H2 ∧ H2 p = some (.lst (xs.map V.int)) ∧ (Ow.Stp width d xs) ∧ (xs.length ≤ 5) ∧ (xs.getLast? = some l) ∧ (pr = l * d % 2 ^ width.toNat) ∧ (0 < xs.length) ∧ True := ⟨_, rfl⟩
      refine ⟨Wi _, ⟨_, by rw [h5]; exact ⟨[d], d, _, rfl, rfl, Ow.Fm.refl, upd_same, (by first | exact Ow.stp_init (by omega) (by omega) (by omega) (by assumption) | rfl | assumption | exact (by decide : 1 ≤ 5) | exact (by decide : 0 < 1)), (by first | exact Ow.stp_init (by omega) (by omega) (by omega) (by assumption) | rfl | assumption | exact (by decide : 1 ≤ 5) | exact (by decide : 0 < 1)), (by first | exact Ow.stp_init (by omega) (by omega) (by omega) (by assumption) | rfl | assumption | exact (by decide : 1 ≤ 5) | exact (by decide : 0 < 1)), (by first | exact Ow.stp_init (by omega) (by omega) (by omega) (by assumption) | rfl | assumption | exact (by decide : 1 ≤ 5) | exact (by decide : 0 < 1)), (by first | exact Ow.stp_init (by omega) (by omega) (by omega) (by assumption) | rfl | assumption | exact (by decide : 1 ≤ 5) | exact (by decide : 0 < 1)), trivial⟩⟩, ?_⟩
      intro m σ2 Hn h7
      rw [h5] at h7
      obtain ⟨xs, l, pr, rfl, rfl, h6, h8, h9, h10, h11, h12, h13, _⟩ := h7
      refine ⟨_, rfl, ?_⟩
      refine ⟨rfl, ?_⟩
      refine ⟨_, rfl, ?_⟩
      refine Ow.ifnei (fun h14 => ?_) (fun h14 => ?_)
      · refine ⟨fun σ3 H3 => ∃ m2, m2 < 5 - xs.length ∧ Wi _ m2 σ3 H3, fun _ _ z => z, ?_⟩
        refine ⟨_, rfl, ?_⟩
        refine ⟨.inl ⟨rfl, _, (SqL.of h8)⟩, ?_⟩
        refine ⟨_, rfl, ?_⟩
        refine ⟨_, rfl, ?_⟩
        refine ⟨_, rfl, ?_⟩
        refine ⟨by decide, ?_⟩
        refine Ow.ixlast (xs := xs) (SqL.of h8) (by first | assumption | (simp; omega) | (simp)) (fun it h_it => ?_)
        refine ⟨_, rfl, ?_⟩
        refine ⟨_, rfl, ?_⟩
        refine ⟨_, _, _, rfl, (by first | assumption | exact Ow.divw64 (by omega) (by omega) | exact Ow.mul0 ⟨by omega, by omega⟩ | exact Ow.mul1 ⟨by omega, by omega⟩ | exact Ow.shl0 (by omega) (by omega) (by omega) | exact ⟨by omega, by omega⟩ | exact ⟨by omega, by omega, by omega⟩ | omega | (simp only [List.length_append, List.length_cons, List.length_nil]; omega) | (subst_vars; omega)), (by first | assumption | exact Ow.divw64 (by omega) (by omega) | exact Ow.mul0 ⟨by omega, by omega⟩ | exact Ow.mul1 ⟨by omega, by omega⟩ | exact Ow.shl0 (by omega) (by omega) (by omega) | exact ⟨by omega, by omega⟩ | exact ⟨by omega, by omega, by omega⟩ | omega | (simp only [List.length_append, List.length_cons, List.length_nil]; omega) | (subst_vars; omega)), fun x y h15 h16 h17 p_2 h_p_2 => ?_⟩
        refine ⟨_, _, _, _, rfl, rfl, (SqT.of upd_same), (by first | rfl | decide), ?_⟩
        refine ⟨_, _, _, rfl, (by first | assumption | omega | exact (Ow.stp_last (by assumption) h_it).1 | exact (Ow.stp_last (by assumption) h_it).2 | exact (Ow.stp_last hS.2 h_it_2).1 | exact (Ow.stp_last hS.2 h_it_2).2), (by first | assumption | omega | exact (Ow.stp_last (by assumption) h_it).1 | exact (Ow.stp_last (by assumption) h_it).2 | exact (Ow.stp_last hS.2 h_it_2).1 | exact (Ow.stp_last hS.2 h_it_2).2), (by first | assumption | omega | exact (Ow.stp_last (by assumption) h_it).1 | exact (Ow.stp_last (by assumption) h_it).2 | exact (Ow.stp_last hS.2 h_it_2).1 | exact (Ow.stp_last hS.2 h_it_2).2), (by first | assumption | omega | exact (Ow.stp_last (by assumption) h_it).1 | exact (Ow.stp_last (by assumption) h_it).2 | exact (Ow.stp_last hS.2 h_it_2).1 | exact (Ow.stp_last hS.2 h_it_2).2), fun ap h18 h19 h20 => ?_⟩
        refine ⟨_, _, _, rfl, rfl, (Ow.at_new h_p_2 h8), (Ow.szl (by rw [List.length_map]; first | assumption | exact Ow.divw64 (by omega) (by omega) | exact Ow.mul0 ⟨by omega, by omega⟩ | exact Ow.mul1 ⟨by omega, by omega⟩ | exact Ow.shl0 (by omega) (by omega) (by omega) | exact ⟨by omega, by omega⟩ | exact ⟨by omega, by omega, by omega⟩ | omega | (simp only [List.length_append, List.length_cons, List.length_nil]; omega) | (subst_vars; omega))), ?_⟩
        have e1 : it = l := Option.some.inj (h_it.symm.trans (by assumption))
        have hS := Ow.stp_step (n := ap) (l := l) (d := d) (w := width) (xs := xs) (by omega) (by omega) (by assumption) (by assumption) (fun z => absurd (show pr = 1 from Eq.trans (by assumption) z) (by assumption)) (by subst_vars; first | rfl | omega) (by omega)
        refine ⟨_, rfl, ?_⟩
        refine ⟨_, rfl, ?_⟩
        refine ⟨_, rfl, ?_⟩
        refine ⟨by decide, ?_⟩
        refine Ow.ixlast (xs := (xs ++ [ap])) (SqL.of (Ow.ap_ints upd_same)) (by first | assumption | (simp; omega) | (simp)) (fun it_2 h_it_2 => ?_)
        refine ⟨_, rfl, ?_⟩
        refine ⟨_, _, _, rfl, (by first | assumption | omega | exact (Ow.stp_last (by assumption) h_it).1 | exact (Ow.stp_last (by assumption) h_it).2 | exact (Ow.stp_last hS.2 h_it_2).1 | exact (Ow.stp_last hS.2 h_it_2).2), (by first | assumption | omega | exact (Ow.stp_last (by assumption) h_it).1 | exact (Ow.stp_last (by assumption) h_it).2 | exact (Ow.stp_last hS.2 h_it_2).1 | exact (Ow.stp_last hS.2 h_it_2).2), (by first | assumption | omega | exact (Ow.stp_last (by assumption) h_it).1 | exact (Ow.stp_last (by assumption) h_it).2 | exact (Ow.stp_last hS.2 h_it_2).1 | exact (Ow.stp_last hS.2 h_it_2).2), (by first | assumption | omega | exact (Ow.stp_last (by assumption) h_it).1 | exact (Ow.stp_last (by assumption) h_it).2 | exact (Ow.stp_last hS.2 h_it_2).1 | exact (Ow.stp_last hS.2 h_it_2).2), fun product_2 h21 h22 h23 => ?_⟩
        refine ⟨_, ?_, by rw [h5]; exact ⟨_, _, _, rfl, rfl, (((Ow.Fm.refl.trans h6).same (Ow.same_new h_p_2)).mut), (Ow.ap_ints upd_same), (by first | assumption | exact hS.2 | (rw [List.length_append]; have := hS.1; simp; omega) | (simp) | (rw [List.getLast?_append] at h_it_2; simp at h_it_2; subst_vars; assumption) | (subst_vars; omega)), (by first | assumption | exact hS.2 | (rw [List.length_append]; have := hS.1; simp; omega) | (simp) | (rw [List.getLast?_append] at h_it_2; simp at h_it_2; subst_vars; assumption) | (subst_vars; omega)), (by first | assumption | exact hS.2 | (rw [List.length_append]; have := hS.1; simp; omega) | (simp) | (rw [List.getLast?_append] at h_it_2; simp at h_it_2; subst_vars; assumption) | (subst_vars; omega)), (by first | assumption | exact hS.2 | (rw [List.length_append]; have := hS.1; simp; omega) | (simp) | (rw [List.getLast?_append] at h_it_2; simp at h_it_2; subst_vars; assumption) | (subst_vars; omega)), (by first | assumption | exact hS.2 | (rw [List.length_append]; have := hS.1; simp; omega) | (simp) | (rw [List.getLast?_append] at h_it_2; simp at h_it_2; subst_vars; assumption) | (subst_vars; omega)), trivial⟩⟩
        rw [List.length_append]; have := hS.1; simp; omega
      · refine ⟨_, rfl, ?_⟩
        exact kont xs (by first | assumption | omega | (intro l2 hl2; have e := Option.some.inj (hl2.symm.trans (by assumption : xs.getLast? = some l)); subst e; omega)) (by first | assumption | omega | (intro l2 hl2; have e := Option.some.inj (hl2.symm.trans (by assumption : xs.getLast? = some l)); subst e; omega)) (by first | assumption | omega | (intro l2 hl2; have e := Option.some.inj (hl2.symm.trans (by assumption : xs.getLast? = some l)); subst e; omega)) (by first | assumption | omega | (intro l2 hl2; have e := Option.some.inj (hl2.symm.trans (by assumption : xs.getLast? = some l)); subst e; omega)) _ _ (Ow.same_frame (Ow.same_new h_p) h6 h_p) h_p h8
theorem ok_inverse (T : Tx K mg) : FnOk P w K mg base CX0 5 T.d_inverse.f T.d_inverse.fd ["width", "d"] (sp_inverse K) := by
  refine T.d_inverse.F.ok sc_inverse (fun vs H Q E h => ?_) (fun cdv A outer s H vs Q E hr h => ?_)
  · obtain ⟨width, d, rfl, _⟩ := h
    rfl
  · obtain ⟨width, d, rfl, c0, c1, c2, c3, c4, kont⟩ := h
    have p32_width := Ow.pow2_le32 (w := width) (by omega)
    have p0_width := Ow.p2 width.toNat
    refine ⟨_, (pss_one (ps_ret (pe_ix ix_list (pe_call (Ow.ok_inverse_steps T) (hr.mono (by decide : 4 ≤ 4)) (by rfl) T.d_inverse_steps.m T.d_inverse_steps.F.kp T.d_inverse_steps.b .nil pass0 (pa_cons (pv 0) (pa_cons (pv 1) pa_nil))) (Ow.pe_lit (-1) (pe_un un_neg pe_int)) (fun _ _ => rfl)))), ?_⟩
    refine ⟨_, rfl, ?_⟩
    refine ⟨_, rfl, ?_⟩
    refine ⟨_, _, rfl, (by first | assumption | exact Ow.divw64 (by omega) (by omega) | exact Ow.mul0 ⟨by omega, by omega⟩ | exact Ow.mul1 ⟨by omega, by omega⟩ | exact Ow.shl0 (by omega) (by omega) (by omega) | exact ⟨by omega, by omega⟩ | exact ⟨by omega, by omega, by omega⟩ | omega | (simp only [List.length_append, List.length_cons, List.length_nil]; omega) | (subst_vars; omega)), (by first | assumption | exact Ow.divw64 (by omega) (by omega) | exact Ow.mul0 ⟨by omega, by omega⟩ | exact Ow.mul1 ⟨by omega, by omega⟩ | exact Ow.shl0 (by omega) (by omega) (by omega) | exact ⟨by omega, by omega⟩ | exact ⟨by omega, by omega, by omega⟩ | omega | (simp only [List.length_append, List.length_cons, List.length_nil]; omega) | (subst_vars; omega)), (by first | assumption | exact Ow.divw64 (by omega) (by omega) | exact Ow.mul0 ⟨by omega, by omega⟩ | exact Ow.mul1 ⟨by omega, by omega⟩ | exact Ow.shl0 (by omega) (by omega) (by omega) | exact ⟨by omega, by omega⟩ | exact ⟨by omega, by omega, by omega⟩ | omega | (simp only [List.length_append, List.length_cons, List.length_nil]; omega) | (subst_vars; omega)), (by first | assumption | exact Ow.divw64 (by omega) (by omega) | exact Ow.mul0 ⟨by omega, by omega⟩ | exact Ow.mul1 ⟨by omega, by omega⟩ | exact Ow.shl0 (by omega) (by omega) (by omega) | exact ⟨by omega, by omega⟩ | exact ⟨by omega, by omega, by omega⟩ | omega | (simp only [List.length_append, List.length_cons, List.length_nil]; omega) | (subst_vars; omega)), (by first | assumption | exact Ow.divw64 (by omega) (by omega) | exact Ow.mul0 ⟨by omega, by omega⟩ | exact Ow.mul1 ⟨by omega, by omega⟩ | exact Ow.shl0 (by omega) (by omega) (by omega) | exact ⟨by omega, by omega⟩ | exact ⟨by omega, by omega, by omega⟩ | omega | (simp only [List.length_append, List.length_cons, List.length_nil]; omega) | (subst_vars; omega)), fun xs h1 h2 h3 h4 p Hn h5 h6 h7 => ?_⟩
    refine ⟨_, rfl, ?_⟩
    refine ⟨by decide, ?_⟩
    refine Ow.ixlast (xs := xs) (SqL.of h7) (by first | assumption | exact Ow.divw64 (by omega) (by omega) | exact Ow.mul0 ⟨by omega, by omega⟩ | exact Ow.mul1 ⟨by omega, by omega⟩ | exact Ow.shl0 (by omega) (by omega) (by omega) | exact ⟨by omega, by omega⟩ | exact ⟨by omega, by omega, by omega⟩ | omega | (simp only [List.length_append, List.length_cons, List.length_nil]; omega) | (subst_vars; omega)) (fun it h_it => ?_)
    exact kont it (by first | exact (Ow.stp_last (by assumption) h_it).1 | exact (Ow.stp_last (by assumption) h_it).2 | exact (by assumption : ∀ l, xs.getLast? = some l → l * d % 2 ^ width.toNat = 1) _ h_it) (by first | exact (Ow.stp_last (by assumption) h_it).1 | exact (Ow.stp_last (by assumption) h_it).2 | exact (by assumption : ∀ l, xs.getLast? = some l → l * d % 2 ^ width.toNat = 1) _ h_it) (by first | exact (Ow.stp_last (by assumption) h_it).1 | exact (Ow.stp_last (by assumption) h_it).2 | exact (by assumption : ∀ l, xs.getLast? = some l → l * d % 2 ^ width.toNat = 1) _ h_it) _ h5
theorem ok_l_draw (T : Tx K mg) : FnOk P w K mg base CX0 1 T.d_l_draw.f T.d_l_draw.fd ["_law_state", "_law_size"] (sp_l_draw K) := by
  refine T.d_l_draw.F.ok sc_l_draw (fun vs H Q E h => ?_) (fun cdv A outer s H vs Q E hr h => ?_)
  · obtain ⟨box, size, a, c, rfl, _⟩ := h
    rfl
  · obtain ⟨box, size, a, c, rfl, c0, c1, c2, kont⟩ := h
    refine ⟨_, (pss_cons (ps_if (pt_cmpR op_gt (pe_ix ix_list (pv 0) pe_int (fun _ _ => rfl)) pe_int (nomark _)) (pss_cons (ps_set (i := 2) sc_l_draw.nd rfl (Or.inl rfl) (pe_op Ow.op_modN (pe_ix ix_list (pv 0) pe_int (fun _ _ => rfl)) (pv 1)))
        (pss_cons (ps_asg (pe_op Ow.op_divN (pe_ix ix_list (pv 0) pe_int (fun _ _ => rfl)) (pv 1)) (pg_sub (pv 0) pe_int set_list))
        (pss_one (ps_ret (pv 2))))) pss_nil)
        (pss_cons (ps_asg (pe_op Ow.op_modN (pe_op Ow.op_mulN (pe_ix ix_list (pv 0) pe_int (fun _ _ => rfl)) pe_int) pe_int) (pg_sub (pv 0) pe_int set_list))
        (pss_cons (ps_set (i := 3) sc_l_draw.nd rfl (Or.inl rfl) (pe_op Ow.op_modN (pe_op Ow.op_mulN (pe_op op_add (pe_ix ix_list (pv 0) pe_int (fun _ _ => rfl)) (pe_op Ow.op_mulN pe_int (pe_op Ow.op_divN (pe_ix ix_list (pv 0) pe_int (fun _ _ => rfl)) pe_int))) pe_int) pe_int))
        (pss_cons (ps_set (i := 4) sc_l_draw.nd rfl (Or.inl rfl) (pe_op Ow.op_modN (pe_op op_add (pe_op Ow.op_mulN (pv 3) pe_int) (pe_op Ow.op_divN (pe_ix ix_list (pv 0) pe_int (fun _ _ => rfl)) pe_int)) pe_int))
        (pss_one (ps_ret (pe_op Ow.op_modN (pe_op op_add (pe_op Ow.op_mulN (pv 3) pe_int) (pv 4)) (pv 1)))))))), ?_⟩
    refine ⟨_, rfl, ?_⟩
    refine ⟨_, _, _, _, rfl, rfl, (SqL.of c0), (by first | rfl | decide), ?_⟩
    refine ⟨_, _, rfl, rfl, ?_⟩
    refine ⟨_, rfl, ?_⟩
    refine Ow.ifd (fun h1 => ?_) (fun h1 => ?_)
    · refine ⟨_, rfl, ?_⟩
      refine ⟨_, _, _, _, rfl, rfl, (SqL.of c0), (by first | rfl | decide), ?_⟩
      refine ⟨_, rfl, ?_⟩
      refine ⟨_, _, rfl, rfl, (by first | assumption | exact Ow.divw64 (by omega) (by omega) | exact Ow.mul0 ⟨by omega, by omega⟩ | exact Ow.mul1 ⟨by omega, by omega⟩ | exact Ow.shl0 (by omega) (by omega) (by omega) | exact ⟨by omega, by omega⟩ | exact ⟨by omega, by omega, by omega⟩ | omega | (simp only [List.length_append, List.length_cons, List.length_nil]; omega) | (subst_vars; omega)), fun l_number h_l_number h0_l_number h1_l_number => ?_⟩
      refine ⟨_, rfl, ?_⟩
      refine ⟨_, _, _, _, rfl, rfl, (SqL.of c0), (by first | rfl | decide), ?_⟩
      refine ⟨_, rfl, ?_⟩
      refine ⟨_, _, rfl, rfl, (by first | assumption | exact Ow.divw64 (by omega) (by omega) | exact Ow.mul0 ⟨by omega, by omega⟩ | exact Ow.mul1 ⟨by omega, by omega⟩ | exact Ow.shl0 (by omega) (by omega) (by omega) | exact ⟨by omega, by omega⟩ | exact ⟨by omega, by omega, by omega⟩ | omega | (simp only [List.length_append, List.length_cons, List.length_nil]; omega) | (subst_vars; omega)), fun q h_q => ?_⟩
      refine ⟨_, rfl, ?_⟩
      refine ⟨_, _, _, 0, rfl, rfl, c0, rfl, ?_⟩
      refine ⟨_, rfl, ?_⟩
      exact kont l_number q c (by first | assumption | exact Ow.divw64 (by omega) (by omega) | exact Ow.mul0 ⟨by omega, by omega⟩ | exact Ow.mul1 ⟨by omega, by omega⟩ | exact Ow.shl0 (by omega) (by omega) (by omega) | exact ⟨by omega, by omega⟩ | exact ⟨by omega, by omega, by omega⟩ | omega | (simp only [List.length_append, List.length_cons, List.length_nil]; omega) | (subst_vars; omega)) (by first | assumption | exact Ow.divw64 (by omega) (by omega) | exact Ow.mul0 ⟨by omega, by omega⟩ | exact Ow.mul1 ⟨by omega, by omega⟩ | exact Ow.shl0 (by omega) (by omega) (by omega) | exact ⟨by omega, by omega⟩ | exact ⟨by omega, by omega, by omega⟩ | omega | (simp only [List.length_append, List.length_cons, List.length_nil]; omega) | (subst_vars; omega))
    · refine ⟨_, rfl, ?_⟩
      refine ⟨_, _, _, _, rfl, rfl, (SqL.of c0), (by first | rfl | decide), ?_⟩
      refine ⟨_, _, rfl, rfl, (by first | assumption | exact Ow.divw64 (by omega) (by omega) | exact Ow.mul0 ⟨by omega, by omega⟩ | exact Ow.mul1 ⟨by omega, by omega⟩ | exact Ow.shl0 (by omega) (by omega) (by omega) | exact ⟨by omega, by omega⟩ | exact ⟨by omega, by omega, by omega⟩ | omega | (simp only [List.length_append, List.length_cons, List.length_nil]; omega) | (subst_vars; omega)), fun m h_m => ?_⟩
      refine ⟨_, _, rfl, rfl, (by first | assumption | exact Ow.divw64 (by omega) (by omega) | exact Ow.mul0 ⟨by omega, by omega⟩ | exact Ow.mul1 ⟨by omega, by omega⟩ | exact Ow.shl0 (by omega) (by omega) (by omega) | exact ⟨by omega, by omega⟩ | exact ⟨by omega, by omega, by omega⟩ | omega | (simp only [List.length_append, List.length_cons, List.length_nil]; omega) | (subst_vars; omega)), fun r h_r h0_r h1_r => ?_⟩
      refine ⟨_, rfl, ?_⟩
      refine ⟨_, _, _, 1, rfl, rfl, c0, rfl, ?_⟩
      refine ⟨_, rfl, ?_⟩
      refine ⟨_, _, _, _, rfl, rfl, (SqL.of upd_same), (by first | rfl | decide), ?_⟩
      refine ⟨_, rfl, ?_⟩
      refine ⟨_, _, _, _, rfl, rfl, (SqL.of upd_same), (by first | rfl | decide), ?_⟩
      refine ⟨_, _, rfl, rfl, (by first | assumption | exact Ow.divw64 (by omega) (by omega) | exact Ow.mul0 ⟨by omega, by omega⟩ | exact Ow.mul1 ⟨by omega, by omega⟩ | exact Ow.shl0 (by omega) (by omega) (by omega) | exact ⟨by omega, by omega⟩ | exact ⟨by omega, by omega, by omega⟩ | omega | (simp only [List.length_append, List.length_cons, List.length_nil]; omega) | (subst_vars; omega)), fun q_2 h_q_2 => ?_⟩
      refine ⟨_, _, rfl, rfl, (by first | assumption | exact Ow.divw64 (by omega) (by omega) | exact Ow.mul0 ⟨by omega, by omega⟩ | exact Ow.mul1 ⟨by omega, by omega⟩ | exact Ow.shl0 (by omega) (by omega) (by omega) | exact ⟨by omega, by omega⟩ | exact ⟨by omega, by omega, by omega⟩ | omega | (simp only [List.length_append, List.length_cons, List.length_nil]; omega) | (subst_vars; omega)), fun m_2 h_m_2 => ?_⟩
      refine ⟨_, _, rfl, rfl, ?_⟩
      refine ⟨_, _, rfl, rfl, (by first | assumption | exact Ow.divw64 (by omega) (by omega) | exact Ow.mul0 ⟨by omega, by omega⟩ | exact Ow.mul1 ⟨by omega, by omega⟩ | exact Ow.shl0 (by omega) (by omega) (by omega) | exact ⟨by omega, by omega⟩ | exact ⟨by omega, by omega, by omega⟩ | omega | (simp only [List.length_append, List.length_cons, List.length_nil]; omega) | (subst_vars; omega)), fun m_3 h_m_3 => ?_⟩
      refine ⟨_, _, rfl, rfl, (by first | assumption | exact Ow.divw64 (by omega) (by omega) | exact Ow.mul0 ⟨by omega, by omega⟩ | exact Ow.mul1 ⟨by omega, by omega⟩ | exact Ow.shl0 (by omega) (by omega) (by omega) | exact ⟨by omega, by omega⟩ | exact ⟨by omega, by omega, by omega⟩ | omega | (simp only [List.length_append, List.length_cons, List.length_nil]; omega) | (subst_vars; omega)), fun l_one h_l_one h0_l_one h1_l_one => ?_⟩
      refine ⟨_, rfl, ?_⟩
      refine ⟨_, _, rfl, rfl, (by first | assumption | exact Ow.divw64 (by omega) (by omega) | exact Ow.mul0 ⟨by omega, by omega⟩ | exact Ow.mul1 ⟨by omega, by omega⟩ | exact Ow.shl0 (by omega) (by omega) (by omega) | exact ⟨by omega, by omega⟩ | exact ⟨by omega, by omega, by omega⟩ | omega | (simp only [List.length_append, List.length_cons, List.length_nil]; omega) | (subst_vars; omega)), fun m_4 h_m_4 => ?_⟩
      refine ⟨_, rfl, ?_⟩
      refine ⟨_, _, _, _, rfl, rfl, (SqL.of upd_same), (by first | rfl | decide), ?_⟩
      refine ⟨_, _, rfl, rfl, (by first | assumption | exact Ow.divw64 (by omega) (by omega) | exact Ow.mul0 ⟨by omega, by omega⟩ | exact Ow.mul1 ⟨by omega, by omega⟩ | exact Ow.shl0 (by omega) (by omega) (by omega) | exact ⟨by omega, by omega⟩ | exact ⟨by omega, by omega, by omega⟩ | omega | (simp only [List.length_append, List.length_cons, List.length_nil]; omega) | (subst_vars; omega)), fun q_3 h_q_3 => ?_⟩
      refine ⟨_, _, rfl, rfl, ?_⟩
      refine ⟨_, _, rfl, rfl, (by first | assumption | exact Ow.divw64 (by omega) (by omega) | exact Ow.mul0 ⟨by omega, by omega⟩ | exact Ow.mul1 ⟨by omega, by omega⟩ | exact Ow.shl0 (by omega) (by omega) (by omega) | exact ⟨by omega, by omega⟩ | exact ⟨by omega, by omega, by omega⟩ | omega | (simp only [List.length_append, List.length_cons, List.length_nil]; omega) | (subst_vars; omega)), fun l_two h_l_two h0_l_two h1_l_two => ?_⟩
      refine ⟨_, rfl, ?_⟩
      refine ⟨_, _, rfl, rfl, (by first | assumption | exact Ow.divw64 (by omega) (by omega) | exact Ow.mul0 ⟨by omega, by omega⟩ | exact Ow.mul1 ⟨by omega, by omega⟩ | exact Ow.shl0 (by omega) (by omega) (by omega) | exact ⟨by omega, by omega⟩ | exact ⟨by omega, by omega, by omega⟩ | omega | (simp only [List.length_append, List.length_cons, List.length_nil]; omega) | (subst_vars; omega)), fun m_5 h_m_5 => ?_⟩
      refine ⟨_, rfl, ?_⟩
      refine ⟨_, _, rfl, rfl, ?_⟩
      refine ⟨_, rfl, ?_⟩
      refine ⟨_, _, rfl, rfl, (by first | assumption | exact Ow.divw64 (by omega) (by omega) | exact Ow.mul0 ⟨by omega, by omega⟩ | exact Ow.mul1 ⟨by omega, by omega⟩ | exact Ow.shl0 (by omega) (by omega) (by omega) | exact ⟨by omega, by omega⟩ | exact ⟨by omega, by omega, by omega⟩ | omega | (simp only [List.length_append, List.length_cons, List.length_nil]; omega) | (subst_vars; omega)), fun r_2 h_r_2 h0_r_2 h1_r_2 => ?_⟩
      exact kont r_2 a r (by first | assumption | exact Ow.divw64 (by omega) (by omega) | exact Ow.mul0 ⟨by omega, by omega⟩ | exact Ow.mul1 ⟨by omega, by omega⟩ | exact Ow.shl0 (by omega) (by omega) (by omega) | exact ⟨by omega, by omega⟩ | exact ⟨by omega, by omega, by omega⟩ | omega | (simp only [List.length_append, List.length_cons, List.length_nil]; omega) | (subst_vars; omega)) (by first | assumption | exact Ow.divw64 (by omega) (by omega) | exact Ow.mul0 ⟨by omega, by omega⟩ | exact Ow.mul1 ⟨by omega, by omega⟩ | exact Ow.shl0 (by omega) (by omega) (by omega) | exact ⟨by omega, by omega⟩ | exact ⟨by omega, by omega, by omega⟩ | omega | (simp only [List.length_append, List.length_cons, List.length_nil]; omega) | (subst_vars; omega))
theorem ok_l_divisor (T : Tx K mg) : FnOk P w K mg base CX0 2 T.d_l_divisor.f T.d_l_divisor.fd ["_law_state", "_law_width"] (sp_l_divisor K) := by
  refine T.d_l_divisor.F.ok sc_l_divisor (fun vs H Q E h => ?_) (fun cdv A outer s H vs Q E hr h => ?_)
  · obtain ⟨box, width, a, c, rfl, _⟩ := h
    rfl
  · obtain ⟨box, width, a, c, rfl, c0, c1, c2, kont⟩ := h
    have p32_width := Ow.pow2_le32 (w := width) (by omega)
    have p0_width := Ow.p2 width.toNat
    have e2 := Ow.pow2_pred (w := width) (by omega)
    have e3 := Ow.p2 (width - 1).toNat
    have e5 := Ow.pow2_mono (a := 4) (b := width.toNat) (by omega)
    refine ⟨_, (pss_cons (ps_set (i := 2) sc_l_divisor.nd rfl (Or.inl rfl) (Ow.pe_nmi (pe_op op_sub (pe_op Ow.op_shl1 pe_int (pv 1)) pe_int)))
        (pss_cons (ps_set (i := 3) sc_l_divisor.nd rfl (Or.inl rfl) (pe_call (Ow.ok_l_draw T) (hr.mono (by decide : 1 ≤ 1)) (by rfl) T.d_l_draw.m T.d_l_draw.F.kp T.d_l_draw.b .nil pass0 (pa_cons (pv 0) (pa_cons pe_int pa_nil))))
        (pss_cons (ps_if (pt_cmpR op_eq (pv 3) pe_int (nomark _)) (pss_one (ps_ret (pe_op Ow.op_shl1 pe_int (pe_call (Ow.ok_l_draw T) (hr.mono (by decide : 1 ≤ 1)) (by rfl) T.d_l_draw.m T.d_l_draw.F.kp T.d_l_draw.b .nil pass0 (pa_cons (pv 0) (pa_cons (pv 1) pa_nil)))))) pss_nil)
        (pss_cons (ps_if (pt_cmpR op_eq (pv 3) pe_int (nomark _)) (pss_one (ps_ret (pe_op op_sub (pv 2) (pe_call (Ow.ok_l_draw T) (hr.mono (by decide : 1 ≤ 1)) (by rfl) T.d_l_draw.m T.d_l_draw.F.kp T.d_l_draw.b .nil pass0 (pa_cons (pv 0) (pa_cons pe_int pa_nil)))))) pss_nil)
        (pss_cons (ps_if (pt_cmpR op_eq (pv 3) pe_int (nomark _)) (pss_one (ps_ret (pe_op op_add pe_int (pe_call (Ow.ok_l_draw T) (hr.mono (by decide : 1 ≤ 1)) (by rfl) T.d_l_draw.m T.d_l_draw.F.kp T.d_l_draw.b .nil pass0 (pa_cons (pv 0) (pa_cons pe_int pa_nil)))))) pss_nil)
        (pss_cons (ps_if (pt_cmpR op_eq (pv 3) pe_int (nomark _)) (pss_cons (ps_set (i := 4) sc_l_divisor.nd rfl (Or.inl rfl) (pe_op Ow.op_divN (pv 1) pe_int))
        (pss_one (ps_ret (pe_op Ow.op_shlN (pe_op op_add pe_int (pe_call (Ow.ok_l_draw T) (hr.mono (by decide : 1 ≤ 1)) (by rfl) T.d_l_draw.m T.d_l_draw.F.kp T.d_l_draw.b .nil pass0 (pa_cons (pv 0) (pa_cons (pe_op Ow.op_shl1 pe_int (pe_op op_sub (pv 1) (pv 4))) pa_nil)))) (pe_call (Ow.ok_l_draw T) (hr.mono (by decide : 1 ≤ 1)) (by rfl) T.d_l_draw.m T.d_l_draw.F.kp T.d_l_draw.b .nil pass0 (pa_cons (pv 0) (pa_cons (pv 4) pa_nil))))))) pss_nil)
        (pss_one (ps_ret (pe_op op_add pe_int (pe_call (Ow.ok_l_draw T) (hr.mono (by decide : 1 ≤ 1)) (by rfl) T.d_l_draw.m T.d_l_draw.F.kp T.d_l_draw.b .nil pass0 (pa_cons (pv 0) (pa_cons (pv 2) pa_nil)))))))))))), ?_⟩
    refine ⟨_, rfl, ?_⟩
    refine ⟨_, rfl, rfl, (by first | assumption | exact Ow.divw64 (by omega) (by omega) | exact Ow.mul0 ⟨by omega, by omega⟩ | exact Ow.mul1 ⟨by omega, by omega⟩ | exact Ow.shl0 (by omega) (by omega) (by omega) | exact ⟨by omega, by omega⟩ | exact ⟨by omega, by omega, by omega⟩ | omega | (simp only [List.length_append, List.length_cons, List.length_nil]; omega) | (subst_vars; omega)), fun B h_B h0_B => ?_⟩
    refine ⟨_, _, rfl, rfl, ?_⟩
    refine ⟨_, rfl, fun l_last h_l_last => ?_⟩
    refine ⟨_, rfl, ?_⟩
    refine ⟨_, _, _, _, rfl, c0, (by first | assumption | exact Ow.divw64 (by omega) (by omega) | exact Ow.mul0 ⟨by omega, by omega⟩ | exact Ow.mul1 ⟨by omega, by omega⟩ | exact Ow.shl0 (by omega) (by omega) (by omega) | exact ⟨by omega, by omega⟩ | exact ⟨by omega, by omega, by omega⟩ | omega | (simp only [List.length_append, List.length_cons, List.length_nil]; omega) | (subst_vars; omega)), (by first | assumption | exact Ow.divw64 (by omega) (by omega) | exact Ow.mul0 ⟨by omega, by omega⟩ | exact Ow.mul1 ⟨by omega, by omega⟩ | exact Ow.shl0 (by omega) (by omega) (by omega) | exact ⟨by omega, by omega⟩ | exact ⟨by omega, by omega, by omega⟩ | omega | (simp only [List.length_append, List.length_cons, List.length_nil]; omega) | (subst_vars; omega)), fun l_kind a2 c2 h1 h2 => ?_⟩
    refine ⟨_, rfl, ?_⟩
    refine ⟨rfl, ?_⟩
    refine ⟨_, rfl, ?_⟩
    refine Ow.ifeqi (fun h3 => ?_) (fun h3 => ?_)
    · refine ⟨_, rfl, ?_⟩
      refine ⟨_, rfl, ?_⟩
      refine ⟨_, _, _, _, rfl, upd_same, (by first | assumption | exact Ow.divw64 (by omega) (by omega) | exact Ow.mul0 ⟨by omega, by omega⟩ | exact Ow.mul1 ⟨by omega, by omega⟩ | exact Ow.shl0 (by omega) (by omega) (by omega) | exact ⟨by omega, by omega⟩ | exact ⟨by omega, by omega, by omega⟩ | omega | (simp only [List.length_append, List.length_cons, List.length_nil]; omega) | (subst_vars; omega)), (by first | assumption | exact Ow.divw64 (by omega) (by omega) | exact Ow.mul0 ⟨by omega, by omega⟩ | exact Ow.mul1 ⟨by omega, by omega⟩ | exact Ow.shl0 (by omega) (by omega) (by omega) | exact ⟨by omega, by omega⟩ | exact ⟨by omega, by omega, by omega⟩ | omega | (simp only [List.length_append, List.length_cons, List.length_nil]; omega) | (subst_vars; omega)), fun t a2_2 c2_2 h4 h5 => ?_⟩
      refine ⟨_, rfl, rfl, (by first | assumption | exact Ow.divw64 (by omega) (by omega) | exact Ow.mul0 ⟨by omega, by omega⟩ | exact Ow.mul1 ⟨by omega, by omega⟩ | exact Ow.shl0 (by omega) (by omega) (by omega) | exact ⟨by omega, by omega⟩ | exact ⟨by omega, by omega, by omega⟩ | omega | (simp only [List.length_append, List.length_cons, List.length_nil]; omega) | (subst_vars; omega)), fun B_2 h_B_2 h0_B_2 => ?_⟩
      try have e4 := Ow.pow2_lt (a := t) (b := width) (by omega) (by omega)
      try have e7 := Ow.shl_lt (a := 1 + t_4) (k := t_5) (w := width) (h := l_half) (by omega) (by subst_vars; omega) (by omega) (by omega) (by omega)
      rw [upd_upd]
      exact kont B_2 a2_2 c2_2 (by first | assumption | exact Ow.divw64 (by omega) (by omega) | exact Ow.mul0 ⟨by omega, by omega⟩ | exact Ow.mul1 ⟨by omega, by omega⟩ | exact Ow.shl0 (by omega) (by omega) (by omega) | exact ⟨by omega, by omega⟩ | exact ⟨by omega, by omega, by omega⟩ | omega | (simp only [List.length_append, List.length_cons, List.length_nil]; omega) | (subst_vars; omega)) (by first | assumption | exact Ow.divw64 (by omega) (by omega) | exact Ow.mul0 ⟨by omega, by omega⟩ | exact Ow.mul1 ⟨by omega, by omega⟩ | exact Ow.shl0 (by omega) (by omega) (by omega) | exact ⟨by omega, by omega⟩ | exact ⟨by omega, by omega, by omega⟩ | omega | (simp only [List.length_append, List.length_cons, List.length_nil]; omega) | (subst_vars; omega))
    · refine ⟨_, rfl, ?_⟩
      refine ⟨rfl, ?_⟩
      refine ⟨_, rfl, ?_⟩
      refine Ow.ifeqi (fun h6 => ?_) (fun h6 => ?_)
      · refine ⟨_, rfl, ?_⟩
        refine ⟨_, rfl, ?_⟩
        refine ⟨_, _, _, _, rfl, upd_same, (by first | assumption | exact Ow.divw64 (by omega) (by omega) | exact Ow.mul0 ⟨by omega, by omega⟩ | exact Ow.mul1 ⟨by omega, by omega⟩ | exact Ow.shl0 (by omega) (by omega) (by omega) | exact ⟨by omega, by omega⟩ | exact ⟨by omega, by omega, by omega⟩ | omega | (simp only [List.length_append, List.length_cons, List.length_nil]; omega) | (subst_vars; omega)), (by first | assumption | exact Ow.divw64 (by omega) (by omega) | exact Ow.mul0 ⟨by omega, by omega⟩ | exact Ow.mul1 ⟨by omega, by omega⟩ | exact Ow.shl0 (by omega) (by omega) (by omega) | exact ⟨by omega, by omega⟩ | exact ⟨by omega, by omega, by omega⟩ | omega | (simp only [List.length_append, List.length_cons, List.length_nil]; omega) | (subst_vars; omega)), fun t_2 a2_3 c2_3 h7 h8 => ?_⟩
        refine ⟨_, _, rfl, rfl, ?_⟩
        try have e4 := Ow.pow2_lt (a := t) (b := width) (by omega) (by omega)
        try have e7 := Ow.shl_lt (a := 1 + t_4) (k := t_5) (w := width) (h := l_half) (by omega) (by subst_vars; omega) (by omega) (by omega) (by omega)
        rw [upd_upd]
        exact kont (l_last - t_2) a2_3 c2_3 (by first | assumption | exact Ow.divw64 (by omega) (by omega) | exact Ow.mul0 ⟨by omega, by omega⟩ | exact Ow.mul1 ⟨by omega, by omega⟩ | exact Ow.shl0 (by omega) (by omega) (by omega) | exact ⟨by omega, by omega⟩ | exact ⟨by omega, by omega, by omega⟩ | omega | (simp only [List.length_append, List.length_cons, List.length_nil]; omega) | (subst_vars; omega)) (by first | assumption | exact Ow.divw64 (by omega) (by omega) | exact Ow.mul0 ⟨by omega, by omega⟩ | exact Ow.mul1 ⟨by omega, by omega⟩ | exact Ow.shl0 (by omega) (by omega) (by omega) | exact ⟨by omega, by omega⟩ | exact ⟨by omega, by omega, by omega⟩ | omega | (simp only [List.length_append, List.length_cons, List.length_nil]; omega) | (subst_vars; omega))
      · refine ⟨_, rfl, ?_⟩
        refine ⟨rfl, ?_⟩
        refine ⟨_, rfl, ?_⟩
        refine Ow.ifeqi (fun h9 => ?_) (fun h9 => ?_)
        · refine ⟨_, rfl, ?_⟩
          refine ⟨_, _, _, _, rfl, upd_same, (by first | assumption | exact Ow.divw64 (by omega) (by omega) | exact Ow.mul0 ⟨by omega, by omega⟩ | exact Ow.mul1 ⟨by omega, by omega⟩ | exact Ow.shl0 (by omega) (by omega) (by omega) | exact ⟨by omega, by omega⟩ | exact ⟨by omega, by omega, by omega⟩ | omega | (simp only [List.length_append, List.length_cons, List.length_nil]; omega) | (subst_vars; omega)), (by first | assumption | exact Ow.divw64 (by omega) (by omega) | exact Ow.mul0 ⟨by omega, by omega⟩ | exact Ow.mul1 ⟨by omega, by omega⟩ | exact Ow.shl0 (by omega) (by omega) (by omega) | exact ⟨by omega, by omega⟩ | exact ⟨by omega, by omega, by omega⟩ | omega | (simp only [List.length_append, List.length_cons, List.length_nil]; omega) | (subst_vars; omega)), fun t_3 a2_4 c2_4 h10 h11 => ?_⟩
          refine ⟨_, _, rfl, rfl, ?_⟩
          try have e4 := Ow.pow2_lt (a := t) (b := width) (by omega) (by omega)
          try have e7 := Ow.shl_lt (a := 1 + t_4) (k := t_5) (w := width) (h := l_half) (by omega) (by subst_vars; omega) (by omega) (by omega) (by omega)
          rw [upd_upd]
          exact kont (1 + t_3) a2_4 c2_4 (by first | assumption | exact Ow.divw64 (by omega) (by omega) | exact Ow.mul0 ⟨by omega, by omega⟩ | exact Ow.mul1 ⟨by omega, by omega⟩ | exact Ow.shl0 (by omega) (by omega) (by omega) | exact ⟨by omega, by omega⟩ | exact ⟨by omega, by omega, by omega⟩ | omega | (simp only [List.length_append, List.length_cons, List.length_nil]; omega) | (subst_vars; omega)) (by first | assumption | exact Ow.divw64 (by omega) (by omega) | exact Ow.mul0 ⟨by omega, by omega⟩ | exact Ow.mul1 ⟨by omega, by omega⟩ | exact Ow.shl0 (by omega) (by omega) (by omega) | exact ⟨by omega, by omega⟩ | exact ⟨by omega, by omega, by omega⟩ | omega | (simp only [List.length_append, List.length_cons, List.length_nil]; omega) | (subst_vars; omega))
        · refine ⟨_, rfl, ?_⟩
          refine ⟨rfl, ?_⟩
          refine ⟨_, rfl, ?_⟩
          refine Ow.ifeqi (fun h12 => ?_) (fun h12 => ?_)
          · refine ⟨_, rfl, ?_⟩
            refine ⟨_, _, rfl, rfl, (by first | assumption | exact Ow.divw64 (by omega) (by omega) | exact Ow.mul0 ⟨by omega, by omega⟩ | exact Ow.mul1 ⟨by omega, by omega⟩ | exact Ow.shl0 (by omega) (by omega) (by omega) | exact ⟨by omega, by omega⟩ | exact ⟨by omega, by omega, by omega⟩ | omega | (simp only [List.length_append, List.length_cons, List.length_nil]; omega) | (subst_vars; omega)), fun l_half h_l_half => ?_⟩
            have e6 := Ow.pow2_le32 (w := width - l_half) (by omega)
            refine ⟨_, rfl, ?_⟩
            refine ⟨_, rfl, ?_⟩
            refine ⟨_, rfl, ?_⟩
            refine ⟨_, _, rfl, rfl, ?_⟩
            refine ⟨_, rfl, rfl, (by first | assumption | exact Ow.divw64 (by omega) (by omega) | exact Ow.mul0 ⟨by omega, by omega⟩ | exact Ow.mul1 ⟨by omega, by omega⟩ | exact Ow.shl0 (by omega) (by omega) (by omega) | exact ⟨by omega, by omega⟩ | exact ⟨by omega, by omega, by omega⟩ | omega | (simp only [List.length_append, List.length_cons, List.length_nil]; omega) | (subst_vars; omega)), fun B_3 h_B_3 h0_B_3 => ?_⟩
            refine ⟨_, _, _, _, rfl, upd_same, (by first | assumption | exact Ow.divw64 (by omega) (by omega) | exact Ow.mul0 ⟨by omega, by omega⟩ | exact Ow.mul1 ⟨by omega, by omega⟩ | exact Ow.shl0 (by omega) (by omega) (by omega) | exact ⟨by omega, by omega⟩ | exact ⟨by omega, by omega, by omega⟩ | omega | (simp only [List.length_append, List.length_cons, List.length_nil]; omega) | (subst_vars; omega)), (by first | assumption | exact Ow.divw64 (by omega) (by omega) | exact Ow.mul0 ⟨by omega, by omega⟩ | exact Ow.mul1 ⟨by omega, by omega⟩ | exact Ow.shl0 (by omega) (by omega) (by omega) | exact ⟨by omega, by omega⟩ | exact ⟨by omega, by omega, by omega⟩ | omega | (simp only [List.length_append, List.length_cons, List.length_nil]; omega) | (subst_vars; omega)), fun t_4 a2_5 c2_5 h13 h14 => ?_⟩
            refine ⟨_, _, rfl, rfl, ?_⟩
            refine ⟨_, rfl, ?_⟩
            refine ⟨_, rfl, ?_⟩
            refine ⟨_, _, _, _, rfl, upd_same, (by first | assumption | exact Ow.divw64 (by omega) (by omega) | exact Ow.mul0 ⟨by omega, by omega⟩ | exact Ow.mul1 ⟨by omega, by omega⟩ | exact Ow.shl0 (by omega) (by omega) (by omega) | exact ⟨by omega, by omega⟩ | exact ⟨by omega, by omega, by omega⟩ | omega | (simp only [List.length_append, List.length_cons, List.length_nil]; omega) | (subst_vars; omega)), (by first | assumption | exact Ow.divw64 (by omega) (by omega) | exact Ow.mul0 ⟨by omega, by omega⟩ | exact Ow.mul1 ⟨by omega, by omega⟩ | exact Ow.shl0 (by omega) (by omega) (by omega) | exact ⟨by omega, by omega⟩ | exact ⟨by omega, by omega, by omega⟩ | omega | (simp only [List.length_append, List.length_cons, List.length_nil]; omega) | (subst_vars; omega)), fun t_5 a2_6 c2_6 h15 h16 => ?_⟩
            refine ⟨_, _, rfl, rfl, (by first | assumption | exact Ow.divw64 (by omega) (by omega) | exact Ow.mul0 ⟨by omega, by omega⟩ | exact Ow.mul1 ⟨by omega, by omega⟩ | exact Ow.shl0 (by omega) (by omega) (by omega) | exact ⟨by omega, by omega⟩ | exact ⟨by omega, by omega, by omega⟩ | omega | (simp only [List.length_append, List.length_cons, List.length_nil]; omega) | (subst_vars; omega)), fun s h_s => ?_⟩
            try have e4 := Ow.pow2_lt (a := t) (b := width) (by omega) (by omega)
            try have e7 := Ow.shl_lt (a := 1 + t_4) (k := t_5) (w := width) (h := l_half) (by omega) (by subst_vars; omega) (by omega) (by omega) (by omega)
            rw [upd_upd, upd_upd]
            exact kont s a2_6 c2_6 (by first | assumption | exact Ow.divw64 (by omega) (by omega) | exact Ow.mul0 ⟨by omega, by omega⟩ | exact Ow.mul1 ⟨by omega, by omega⟩ | exact Ow.shl0 (by omega) (by omega) (by omega) | exact ⟨by omega, by omega⟩ | exact ⟨by omega, by omega, by omega⟩ | omega | (simp only [List.length_append, List.length_cons, List.length_nil]; omega) | (subst_vars; omega)) (by first | assumption | exact Ow.divw64 (by omega) (by omega) | exact Ow.mul0 ⟨by omega, by omega⟩ | exact Ow.mul1 ⟨by omega, by omega⟩ | exact Ow.shl0 (by omega) (by omega) (by omega) | exact ⟨by omega, by omega⟩ | exact ⟨by omega, by omega, by omega⟩ | omega | (simp only [List.length_append, List.length_cons, List.length_nil]; omega) | (subst_vars; omega))
          · refine ⟨_, rfl, ?_⟩
            refine ⟨_, rfl, ?_⟩
            refine ⟨_, _, _, _, rfl, upd_same, (by first | assumption | exact Ow.divw64 (by omega) (by omega) | exact Ow.mul0 ⟨by omega, by omega⟩ | exact Ow.mul1 ⟨by omega, by omega⟩ | exact Ow.shl0 (by omega) (by omega) (by omega) | exact ⟨by omega, by omega⟩ | exact ⟨by omega, by omega, by omega⟩ | omega | (simp only [List.length_append, List.length_cons, List.length_nil]; omega) | (subst_vars; omega)), (by first | assumption | exact Ow.divw64 (by omega) (by omega) | exact Ow.mul0 ⟨by omega, by omega⟩ | exact Ow.mul1 ⟨by omega, by omega⟩ | exact Ow.shl0 (by omega) (by omega) (by omega) | exact ⟨by omega, by omega⟩ | exact ⟨by omega, by omega, by omega⟩ | omega | (simp only [List.length_append, List.length_cons, List.length_nil]; omega) | (subst_vars; omega)), fun t_6 a2_7 c2_7 h17 h18 => ?_⟩
            refine ⟨_, _, rfl, rfl, ?_⟩
            try have e4 := Ow.pow2_lt (a := t) (b := width) (by omega) (by omega)
            try have e7 := Ow.shl_lt (a := 1 + t_4) (k := t_5) (w := width) (h := l_half) (by omega) (by subst_vars; omega) (by omega) (by omega) (by omega)
            rw [upd_upd]
            exact kont (1 + t_6) a2_7 c2_7 (by first | assumption | exact Ow.divw64 (by omega) (by omega) | exact Ow.mul0 ⟨by omega, by omega⟩ | exact Ow.mul1 ⟨by omega, by omega⟩ | exact Ow.shl0 (by omega) (by omega) (by omega) | exact ⟨by omega, by omega⟩ | exact ⟨by omega, by omega, by omega⟩ | omega | (simp only [List.length_append, List.length_cons, List.length_nil]; omega) | (subst_vars; omega)) (by first | assumption | exact Ow.divw64 (by omega) (by omega) | exact Ow.mul0 ⟨by omega, by omega⟩ | exact Ow.mul1 ⟨by omega, by omega⟩ | exact Ow.shl0 (by omega) (by omega) (by omega) | exact ⟨by omega, by omega⟩ | exact ⟨by omega, by omega, by omega⟩ | omega | (simp only [List.length_append, List.length_cons, List.length_nil]; omega) | (subst_vars; omega))
theorem ok_l_whole (T : Tx K mg) : FnOk P w K mg base CX0 1 T.d_l_whole.f T.d_l_whole.fd ["_law_found"] (sp_l_whole K) := by
  refine T.d_l_whole.F.ok sc_l_whole (fun vs H Q E h => ?_) (fun cdv A outer s H vs Q E hr h => ?_)
  · obtain ⟨found, rfl, _⟩ := h
    rfl
  · obtain ⟨found, rfl, kont⟩ := h
    refine ⟨_, (pss_one (ps_ret (pe_and (pe_callB call_isi (by rfl) T.z_isinstance (by decide +kernel) (pa_cons (pv 0) (pa_cons (pe_bltn (v := .ty "int") (by rfl) T.z_int (by decide +kernel) rfl) pa_nil))) (pe_one (pe_not (pe_callB call_isi (by rfl) T.z_isinstance (by decide +kernel) (pa_cons (pv 0) (pa_cons (pe_bltn (v := .ty "bool") (by rfl) T.z_bool (by decide +kernel) rfl) pa_nil)))))))), ?_⟩
    refine ⟨_, rfl, ?_⟩
    refine ⟨_, _, _, _, true, rfl, .ty _, .base (.int _), kit_ty (by decide +kernel), ?_⟩
    refine ⟨_, rfl, ?_⟩
    refine iteT ?_
    refine ⟨_, rfl, ?_⟩
    refine ⟨_, _, _, _, false, rfl, .ty _, .base (.int _), kit_ty (by decide +kernel), ?_⟩
    refine ⟨_, rfl, ?_⟩
    exact kont
theorem ok_l_steps_right (T : Tx K mg) : FnOk P w K mg base CX0 2 T.d_l_steps_right.f T.d_l_steps_right.fd ["_law_width", "_law_d", "_law_steps"] (sp_l_steps_right K) := by
  refine T.d_l_steps_right.F.ok sc_l_steps_right (fun vs H Q E h => ?_) (fun cdv A outer s H vs Q E hr h => ?_)
  · obtain ⟨width, d, steps, xs, rfl, _⟩ := h
    rfl
  · obtain ⟨width, d, steps, xs, rfl, c0, c1, c2, c3, c4, c5, c6, c7, c8, c9, kont⟩ := h
    have p32_width := Ow.pow2_le32 (w := width) (by omega)
    have p0_width := Ow.p2 width.toNat
    have hM := Ow.pow_gt1 (w := width) (by omega)
    refine ⟨_, (pss_cons (ps_if (PW.pt (pw_or (pt_not (pt_val (pe_callB call_isi (by rfl) T.z_isinstance (by decide +kernel) (pa_cons (pv 2) (pa_cons (pe_bltn (v := .ty "list") (by rfl) T.z_list (by decide +kernel) rfl) pa_nil))))) (pw_or (pt_not (pt_chain op_le op_le pe_int (Ow.pe_nmi (pe_callB call_len_seq (by rfl) T.z_len (by decide +kernel) (pa_cons (pv 2) pa_nil))) pe_int)) (pw_or1 (pt_cmpR op_ne (pe_ix ix_list (pv 2) pe_int (fun _ _ => rfl)) (pv 1) (nomark _)))))) (pss_one (ps_ret pe_bl)) pss_nil)
        (pss_cons (ps_for PassesOwn.never rfl (pi_range1 (by rfl) T.z_range (pa_cons (Ow.pe_nmi (pe_callB call_len_seq (by rfl) T.z_len (by decide +kernel) (pa_cons (pv 2) pa_nil))) pa_nil)) (pg_name (i := 3) sc_l_steps_right.nd rfl (Or.inl rfl)) (pss_cons (ps_set (i := 4) sc_l_steps_right.nd rfl (Or.inl rfl) (pe_ix ix_list (pv 2) (pv 3) (fun _ _ => rfl)))
        (pss_cons (ps_if (PW.pt (pw_or (pt_not (pt_val (pe_call (Ow.ok_l_whole T) (hr.mono (by decide : 1 ≤ 1)) (by rfl) T.d_l_whole.m T.d_l_whole.F.kp T.d_l_whole.b .nil pass0 (pa_cons (pv 4) pa_nil)))) (pw_or1 (pt_cmpR op_ne (pe_op Ow.op_modN (pe_op op_sub (pe_op Ow.op_mulN (pv 4) (pv 1)) pe_int) (pe_op Ow.op_shl1 pe_int (Ow.pe_nmi (pe_callB (call_min2 rfl) (by rfl) T.z_min (by decide +kernel) (pa_cons (pv 0) (pa_cons (pe_op Ow.op_shlN pe_int (pv 3)) pa_nil)))))) pe_int (nomark _))))) (pss_one (ps_ret pe_bl)) pss_nil)
        (pss_cons (ps_if (pt_cmpR op_eq (pe_op op_add (pv 3) pe_int) (Ow.pe_nmi (pe_callB call_len_seq (by rfl) T.z_len (by decide +kernel) (pa_cons (pv 2) pa_nil))) (nomark _)) (pss_one (ps_ret (pe_cmpR op_eq (pe_op Ow.op_modN (pe_op Ow.op_mulN (pv 4) (pv 1)) (pe_op Ow.op_shl1 pe_int (pv 0))) pe_int (nomark _)))) pss_nil)
        (pss_one (ps_if (PW.pt (pw_or (pt_cmpR op_eq (pe_op Ow.op_modN (pe_op Ow.op_mulN (pv 4) (pv 1)) (pe_op Ow.op_shl1 pe_int (pv 0))) pe_int (nomark _)) (pw_or1 (pt_cmpR op_ne (pe_ix ix_list (pv 2) (pe_op op_add (pv 3) pe_int) (fun _ _ => rfl)) (pe_op Ow.op_modN (pe_op Ow.op_mulN (pv 4) (pe_op op_sub pe_int (pe_op Ow.op_mulN (pv 1) (pv 4)))) (pe_op Ow.op_shl1 pe_int (pv 0))) (nomark _))))) (pss_one (ps_ret pe_bl)) pss_nil))))))
        (pss_one (ps_ret pe_bl)))), ?_⟩
    refine ⟨_, rfl, ?_⟩
    refine ⟨_, _, _, _, true, rfl, .ty _, .base (.lst c0), kit_ty (by decide +kernel), ?_⟩
    refine ⟨_, rfl, ?_⟩
    refine iteF ?_
    refine ⟨_, rfl, ?_⟩
    refine ⟨_, _, rfl, .inl (SqL.of c0), ?_⟩
    refine ⟨_, rfl, fun len h_len => ?_⟩
    rw [List.length_map] at h_len
    refine ⟨_, _, rfl, rfl, ?_⟩
    refine ⟨_, rfl, ?_⟩
    refine Ow.ifd (fun h1 => ?_) (fun h1 => ?_)
    · refine ⟨_, _, rfl, rfl, ?_⟩
      refine ⟨_, rfl, ?_⟩
      refine Ow.ifnd (fun h2 => ?_) (fun h2 => ?_)
      · refine iteT ?_
        exact ((by first | assumption | exact Ow.divw64 (by omega) (by omega) | exact Ow.mul0 ⟨by omega, by omega⟩ | exact Ow.mul1 ⟨by omega, by omega⟩ | exact Ow.shl0 (by omega) (by omega) (by omega) | exact ⟨by omega, by omega⟩ | exact ⟨by omega, by omega, by omega⟩ | omega | (simp only [List.length_append, List.length_cons, List.length_nil]; omega) | (subst_vars; omega) | exact absurd (Option.some.inj (h_it.symm.trans c6.1)) (by assumption) | (have e := s1 m_2 (by subst h_s; exact hm_m_2); subst_vars; omega) | (have e := Ow.stp_next c6 h_it_2 (by omega); subst_vars; omega) | (have e := Ow.stp_val c6 h_it_2 h_it_3 (by omega); subst_vars; omega)) : False).elim
      · refine ⟨_, rfl, ?_⟩
        refine Ow.cc ?_
        refine Ow.ixn (xs := xs) (i := 0) (SqL.of c0) (by first | assumption | exact Ow.divw64 (by omega) (by omega) | exact Ow.mul0 ⟨by omega, by omega⟩ | exact Ow.mul1 ⟨by omega, by omega⟩ | exact Ow.shl0 (by omega) (by omega) (by omega) | exact ⟨by omega, by omega⟩ | exact ⟨by omega, by omega, by omega⟩ | omega | (simp only [List.length_append, List.length_cons, List.length_nil]; omega) | (subst_vars; omega)) (by first | assumption | exact Ow.divw64 (by omega) (by omega) | exact Ow.mul0 ⟨by omega, by omega⟩ | exact Ow.mul1 ⟨by omega, by omega⟩ | exact Ow.shl0 (by omega) (by omega) (by omega) | exact ⟨by omega, by omega⟩ | exact ⟨by omega, by omega, by omega⟩ | omega | (simp only [List.length_append, List.length_cons, List.length_nil]; omega) | (subst_vars; omega)) (fun it h_it => ?_)
        refine ⟨_, rfl, ?_⟩
        refine ⟨rfl, ?_⟩
        refine ⟨_, rfl, ?_⟩
        refine Ow.ifnei (fun h3 => ?_) (fun h3 => ?_)
        · exact ((by first | assumption | exact Ow.divw64 (by omega) (by omega) | exact Ow.mul0 ⟨by omega, by omega⟩ | exact Ow.mul1 ⟨by omega, by omega⟩ | exact Ow.shl0 (by omega) (by omega) (by omega) | exact ⟨by omega, by omega⟩ | exact ⟨by omega, by omega, by omega⟩ | omega | (simp only [List.length_append, List.length_cons, List.length_nil]; omega) | (subst_vars; omega) | exact absurd (Option.some.inj (h_it.symm.trans c6.1)) (by assumption) | (have e := s1 m_2 (by subst h_s; exact hm_m_2); subst_vars; omega) | (have e := Ow.stp_next c6 h_it_2 (by omega); subst_vars; omega) | (have e := Ow.stp_val c6 h_it_2 h_it_3 (by omega); subst_vars; omega)) : False).elim
        · refine ⟨_, rfl, ?_⟩
          refine ⟨_, _, rfl, .inl (SqL.of c0), ?_⟩
          refine ⟨_, rfl, fun len_2 h_len_2 => ?_⟩
          rw [List.length_map] at h_len_2
          refine ⟨_, rfl, (by first | assumption | exact Ow.divw64 (by omega) (by omega) | exact Ow.mul0 ⟨by omega, by omega⟩ | exact Ow.mul1 ⟨by omega, by omega⟩ | exact Ow.shl0 (by omega) (by omega) (by omega) | exact ⟨by omega, by omega⟩ | exact ⟨by omega, by omega, by omega⟩ | omega | (simp only [List.length_append, List.length_cons, List.length_nil]; omega) | (subst_vars; omega)), (by first | assumption | exact Ow.divw64 (by omega) (by omega) | exact Ow.mul0 ⟨by omega, by omega⟩ | exact Ow.mul1 ⟨by omega, by omega⟩ | exact Ow.shl0 (by omega) (by omega) (by omega) | exact ⟨by omega, by omega⟩ | exact ⟨by omega, by omega, by omega⟩ | omega | (simp only [List.length_append, List.length_cons, List.length_nil]; omega) | (subst_vars; omega)), ?_⟩
          refine for_range (lo := 0) (fun i σ2 H2 => ∃ (v_3 : Option V) (v_4 : Option V), σ2 = [some (.int (width)), some (.int (d)), some (.ref steps), v_3, v_4] ∧ Same _ H2 ∧ (i = 0 ∨ i < xs.length)) ⟨_, _, rfl, Same.refl _, (by first | assumption | exact Ow.divw64 (by omega) (by omega) | exact Ow.mul0 ⟨by omega, by omega⟩ | exact Ow.mul1 ⟨by omega, by omega⟩ | exact Ow.shl0 (by omega) (by omega) (by omega) | exact ⟨by omega, by omega⟩ | exact ⟨by omega, by omega, by omega⟩ | omega | (simp only [List.length_append, List.length_cons, List.length_nil]; omega) | (subst_vars; omega))⟩ ?_ ?_
          · rintro i _ Hn h6 ⟨_, _, rfl, h4, h5⟩
            refine Ow.gturn (fun l_j h_l_j => ?_)
            refine ⟨_, rfl, ?_⟩
            refine ⟨_, rfl, ?_⟩
            refine Ow.ixn (xs := xs) (i := l_j) (SqL.of (h4 _ _ c0)) (by first | assumption | exact Ow.divw64 (by omega) (by omega) | exact Ow.mul0 ⟨by omega, by omega⟩ | exact Ow.mul1 ⟨by omega, by omega⟩ | exact Ow.shl0 (by omega) (by omega) (by omega) | exact ⟨by omega, by omega⟩ | exact ⟨by omega, by omega, by omega⟩ | omega | (simp only [List.length_append, List.length_cons, List.length_nil]; omega) | (subst_vars; omega)) (by first | assumption | exact Ow.divw64 (by omega) (by omega) | exact Ow.mul0 ⟨by omega, by omega⟩ | exact Ow.mul1 ⟨by omega, by omega⟩ | exact Ow.shl0 (by omega) (by omega) (by omega) | exact ⟨by omega, by omega⟩ | exact ⟨by omega, by omega, by omega⟩ | omega | (simp only [List.length_append, List.length_cons, List.length_nil]; omega) | (subst_vars; omega)) (fun it_2 h_it_2 => ?_)
            have s1 := Ow.stp_at c6 (by omega) h_it_2
            have s2 := c6.2.1 _ _ h_it_2
            have s3 := s2.1
            have s4 := s2.2.1
            have pj := Ow.p2 l_j.toNat
            refine ⟨_, rfl, ?_⟩
            refine ⟨_, rfl, ?_⟩
            refine ⟨_, rfl, ?_⟩
            refine iteF ?_
            refine ⟨_, rfl, ?_⟩
            refine ⟨_, rfl, ?_⟩
            refine ⟨_, _, rfl, rfl, (by first | assumption | exact Ow.divw64 (by omega) (by omega) | exact Ow.mul0 ⟨by omega, by omega⟩ | exact Ow.mul1 ⟨by omega, by omega⟩ | exact Ow.shl0 (by omega) (by omega) (by omega) | exact ⟨by omega, by omega⟩ | exact ⟨by omega, by omega, by omega⟩ | omega | (simp only [List.length_append, List.length_cons, List.length_nil]; omega) | (subst_vars; omega)), fun m h_m => ?_⟩
            refine ⟨_, _, rfl, rfl, ?_⟩
            refine ⟨_, rfl, ?_⟩
            refine ⟨_, rfl, ?_⟩
            refine ⟨_, _, rfl, rfl, (by first | assumption | exact Ow.divw64 (by omega) (by omega) | exact Ow.mul0 ⟨by omega, by omega⟩ | exact Ow.mul1 ⟨by omega, by omega⟩ | exact Ow.shl0 (by omega) (by omega) (by omega) | exact ⟨by omega, by omega⟩ | exact ⟨by omega, by omega, by omega⟩ | omega | (simp only [List.length_append, List.length_cons, List.length_nil]; omega) | (subst_vars; omega)), fun s h_s => ?_⟩
            refine ⟨_, _, rfl, ?_⟩
            refine ⟨_, rfl, fun m_2 h_m_2 => ?_⟩
            have hm_m_2 := Ow.min_ite h_m_2
            refine ⟨_, rfl, rfl, (by first | assumption | exact Ow.divw64 (by omega) (by omega) | exact Ow.mul0 ⟨by omega, by omega⟩ | exact Ow.mul1 ⟨by omega, by omega⟩ | exact Ow.shl0 (by omega) (by omega) (by omega) | exact ⟨by omega, by omega⟩ | exact ⟨by omega, by omega, by omega⟩ | omega | (simp only [List.length_append, List.length_cons, List.length_nil]; omega) | (subst_vars; omega)), fun B h_B h0_B => ?_⟩
            refine ⟨_, _, rfl, rfl, (by first | assumption | exact Ow.divw64 (by omega) (by omega) | exact Ow.mul0 ⟨by omega, by omega⟩ | exact Ow.mul1 ⟨by omega, by omega⟩ | exact Ow.shl0 (by omega) (by omega) (by omega) | exact ⟨by omega, by omega⟩ | exact ⟨by omega, by omega, by omega⟩ | omega | (simp only [List.length_append, List.length_cons, List.length_nil]; omega) | (subst_vars; omega)), fun r h_r h0_r h1_r => ?_⟩
            refine ⟨rfl, ?_⟩
            refine ⟨_, rfl, ?_⟩
            refine Ow.ifnei (fun h7 => ?_) (fun h7 => ?_)
            · exact ((by first | assumption | exact Ow.divw64 (by omega) (by omega) | exact Ow.mul0 ⟨by omega, by omega⟩ | exact Ow.mul1 ⟨by omega, by omega⟩ | exact Ow.shl0 (by omega) (by omega) (by omega) | exact ⟨by omega, by omega⟩ | exact ⟨by omega, by omega, by omega⟩ | omega | (simp only [List.length_append, List.length_cons, List.length_nil]; omega) | (subst_vars; omega) | exact absurd (Option.some.inj (h_it.symm.trans c6.1)) (by assumption) | (have e := s1 m_2 (by subst h_s; exact hm_m_2); subst_vars; omega) | (have e := Ow.stp_next c6 h_it_2 (by omega); subst_vars; omega) | (have e := Ow.stp_val c6 h_it_2 h_it_3 (by omega); subst_vars; omega)) : False).elim
            · refine ⟨_, rfl, ?_⟩
              refine ⟨_, _, rfl, rfl, ?_⟩
              refine ⟨_, rfl, ?_⟩
              refine ⟨_, _, rfl, .inl (SqL.of (h4 _ _ c0)), ?_⟩
              refine ⟨_, rfl, fun len_3 h_len_3 => ?_⟩
              rw [List.length_map] at h_len_3
              refine ⟨rfl, ?_⟩
              refine ⟨_, rfl, ?_⟩
              refine Ow.ifeqi (fun h8 => ?_) (fun h8 => ?_)
              · refine ⟨_, rfl, ?_⟩
                refine ⟨_, rfl, ?_⟩
                refine ⟨_, _, rfl, rfl, (by first | assumption | exact Ow.divw64 (by omega) (by omega) | exact Ow.mul0 ⟨by omega, by omega⟩ | exact Ow.mul1 ⟨by omega, by omega⟩ | exact Ow.shl0 (by omega) (by omega) (by omega) | exact ⟨by omega, by omega⟩ | exact ⟨by omega, by omega, by omega⟩ | omega | (simp only [List.length_append, List.length_cons, List.length_nil]; omega) | (subst_vars; omega)), fun m_3 h_m_3 => ?_⟩
                refine ⟨_, rfl, ?_⟩
                refine ⟨_, rfl, rfl, (by first | assumption | exact Ow.divw64 (by omega) (by omega) | exact Ow.mul0 ⟨by omega, by omega⟩ | exact Ow.mul1 ⟨by omega, by omega⟩ | exact Ow.shl0 (by omega) (by omega) (by omega) | exact ⟨by omega, by omega⟩ | exact ⟨by omega, by omega, by omega⟩ | omega | (simp only [List.length_append, List.length_cons, List.length_nil]; omega) | (subst_vars; omega)), fun B_2 h_B_2 h0_B_2 => ?_⟩
                refine ⟨_, _, rfl, rfl, (by first | assumption | exact Ow.divw64 (by omega) (by omega) | exact Ow.mul0 ⟨by omega, by omega⟩ | exact Ow.mul1 ⟨by omega, by omega⟩ | exact Ow.shl0 (by omega) (by omega) (by omega) | exact ⟨by omega, by omega⟩ | exact ⟨by omega, by omega, by omega⟩ | omega | (simp only [List.length_append, List.length_cons, List.length_nil]; omega) | (subst_vars; omega)), fun r_2 h_r_2 h0_r_2 h1_r_2 => ?_⟩
                refine ⟨rfl, ?_⟩
                refine Ow.eqeqi (by first | assumption | exact Ow.divw64 (by omega) (by omega) | exact Ow.mul0 ⟨by omega, by omega⟩ | exact Ow.mul1 ⟨by omega, by omega⟩ | exact Ow.shl0 (by omega) (by omega) (by omega) | exact ⟨by omega, by omega⟩ | exact ⟨by omega, by omega, by omega⟩ | omega | (simp only [List.length_append, List.length_cons, List.length_nil]; omega) | (subst_vars; omega) | (have g1 := Ow.last_ix h_it_2 (by omega) (by omega); have g2 := c9 _ g1; subst_vars; exact g2)) ?_
                exact kont _ h4
              · refine ⟨_, rfl, ?_⟩
                refine ⟨_, rfl, ?_⟩
                refine ⟨_, _, rfl, rfl, (by first | assumption | exact Ow.divw64 (by omega) (by omega) | exact Ow.mul0 ⟨by omega, by omega⟩ | exact Ow.mul1 ⟨by omega, by omega⟩ | exact Ow.shl0 (by omega) (by omega) (by omega) | exact ⟨by omega, by omega⟩ | exact ⟨by omega, by omega, by omega⟩ | omega | (simp only [List.length_append, List.length_cons, List.length_nil]; omega) | (subst_vars; omega)), fun m_4 h_m_4 => ?_⟩
                refine ⟨_, rfl, ?_⟩
                refine ⟨_, rfl, rfl, (by first | assumption | exact Ow.divw64 (by omega) (by omega) | exact Ow.mul0 ⟨by omega, by omega⟩ | exact Ow.mul1 ⟨by omega, by omega⟩ | exact Ow.shl0 (by omega) (by omega) (by omega) | exact ⟨by omega, by omega⟩ | exact ⟨by omega, by omega, by omega⟩ | omega | (simp only [List.length_append, List.length_cons, List.length_nil]; omega) | (subst_vars; omega)), fun B_3 h_B_3 h0_B_3 => ?_⟩
                refine ⟨_, _, rfl, rfl, (by first | assumption | exact Ow.divw64 (by omega) (by omega) | exact Ow.mul0 ⟨by omega, by omega⟩ | exact Ow.mul1 ⟨by omega, by omega⟩ | exact Ow.shl0 (by omega) (by omega) (by omega) | exact ⟨by omega, by omega⟩ | exact ⟨by omega, by omega, by omega⟩ | omega | (simp only [List.length_append, List.length_cons, List.length_nil]; omega) | (subst_vars; omega)), fun r_3 h_r_3 h0_r_3 h1_r_3 => ?_⟩
                refine ⟨rfl, ?_⟩
                refine ⟨_, rfl, ?_⟩
                refine Ow.ifeqi (fun h9 => ?_) (fun h9 => ?_)
                · refine iteT ?_
                  exact ((by first | assumption | exact Ow.divw64 (by omega) (by omega) | exact Ow.mul0 ⟨by omega, by omega⟩ | exact Ow.mul1 ⟨by omega, by omega⟩ | exact Ow.shl0 (by omega) (by omega) (by omega) | exact ⟨by omega, by omega⟩ | exact ⟨by omega, by omega, by omega⟩ | omega | (simp only [List.length_append, List.length_cons, List.length_nil]; omega) | (subst_vars; omega) | exact absurd (Option.some.inj (h_it.symm.trans c6.1)) (by assumption) | (have e := s1 m_2 (by subst h_s; exact hm_m_2); subst_vars; omega) | (have e := Ow.stp_next c6 h_it_2 (by omega); subst_vars; omega) | (have e := Ow.stp_val c6 h_it_2 h_it_3 (by omega); subst_vars; omega)) : False).elim
                · refine ⟨_, rfl, ?_⟩
                  refine ⟨_, rfl, ?_⟩
                  refine ⟨_, _, rfl, rfl, ?_⟩
                  refine Ow.ixn (xs := xs) (i := l_j + 1) (SqL.of (h4 _ _ c0)) (by first | assumption | exact Ow.divw64 (by omega) (by omega) | exact Ow.mul0 ⟨by omega, by omega⟩ | exact Ow.mul1 ⟨by omega, by omega⟩ | exact Ow.shl0 (by omega) (by omega) (by omega) | exact ⟨by omega, by omega⟩ | exact ⟨by omega, by omega, by omega⟩ | omega | (simp only [List.length_append, List.length_cons, List.length_nil]; omega) | (subst_vars; omega)) (by first | assumption | exact Ow.divw64 (by omega) (by omega) | exact Ow.mul0 ⟨by omega, by omega⟩ | exact Ow.mul1 ⟨by omega, by omega⟩ | exact Ow.shl0 (by omega) (by omega) (by omega) | exact ⟨by omega, by omega⟩ | exact ⟨by omega, by omega, by omega⟩ | omega | (simp only [List.length_append, List.length_cons, List.length_nil]; omega) | (subst_vars; omega)) (fun it_3 h_it_3 => ?_)
                  refine ⟨_, rfl, ?_⟩
                  refine ⟨_, rfl, ?_⟩
                  refine ⟨_, rfl, ?_⟩
                  refine ⟨_, _, rfl, rfl, (by first | assumption | exact Ow.divw64 (by omega) (by omega) | exact Ow.mul0 ⟨by omega, by omega⟩ | exact Ow.mul1 ⟨by omega, by omega⟩ | exact Ow.shl0 (by omega) (by omega) (by omega) | exact ⟨by omega, by omega⟩ | exact ⟨by omega, by omega, by omega⟩ | omega | (simp only [List.length_append, List.length_cons, List.length_nil]; omega) | (subst_vars; omega)), fun m_5 h_m_5 => ?_⟩
                  refine ⟨_, _, rfl, rfl, ?_⟩
                  refine ⟨_, _, rfl, rfl, (by first | assumption | exact Ow.divw64 (by omega) (by omega) | exact Ow.mul0 ⟨by omega, by omega⟩ | exact Ow.mul1 ⟨by omega, by omega⟩ | exact Ow.shl0 (by omega) (by omega) (by omega) | exact ⟨by omega, by omega⟩ | exact ⟨by omega, by omega, by omega⟩ | omega | (simp only [List.length_append, List.length_cons, List.length_nil]; omega) | (subst_vars; omega)), fun m_6 h_m_6 => ?_⟩
                  refine ⟨_, rfl, ?_⟩
                  refine ⟨_, rfl, rfl, (by first | assumption | exact Ow.divw64 (by omega) (by omega) | exact Ow.mul0 ⟨by omega, by omega⟩ | exact Ow.mul1 ⟨by omega, by omega⟩ | exact Ow.shl0 (by omega) (by omega) (by omega) | exact ⟨by omega, by omega⟩ | exact ⟨by omega, by omega, by omega⟩ | omega | (simp only [List.length_append, List.length_cons, List.length_nil]; omega) | (subst_vars; omega)), fun B_4 h_B_4 h0_B_4 => ?_⟩
                  refine ⟨_, _, rfl, rfl, (by first | assumption | exact Ow.divw64 (by omega) (by omega) | exact Ow.mul0 ⟨by omega, by omega⟩ | exact Ow.mul1 ⟨by omega, by omega⟩ | exact Ow.shl0 (by omega) (by omega) (by omega) | exact ⟨by omega, by omega⟩ | exact ⟨by omega, by omega, by omega⟩ | omega | (simp only [List.length_append, List.length_cons, List.length_nil]; omega) | (subst_vars; omega)), fun r_4 h_r_4 h0_r_4 h1_r_4 => ?_⟩
                  refine ⟨rfl, ?_⟩
                  refine ⟨_, rfl, ?_⟩
                  refine Ow.ifnei (fun h10 => ?_) (fun h10 => ?_)
                  · exact ((by first | assumption | exact Ow.divw64 (by omega) (by omega) | exact Ow.mul0 ⟨by omega, by omega⟩ | exact Ow.mul1 ⟨by omega, by omega⟩ | exact Ow.shl0 (by omega) (by omega) (by omega) | exact ⟨by omega, by omega⟩ | exact ⟨by omega, by omega, by omega⟩ | omega | (simp only [List.length_append, List.length_cons, List.length_nil]; omega) | (subst_vars; omega) | exact absurd (Option.some.inj (h_it.symm.trans c6.1)) (by assumption) | (have e := s1 m_2 (by subst h_s; exact hm_m_2); subst_vars; omega) | (have e := Ow.stp_next c6 h_it_2 (by omega); subst_vars; omega) | (have e := Ow.stp_val c6 h_it_2 h_it_3 (by omega); subst_vars; omega)) : False).elim
                  · exact ⟨_, _, rfl, h4, (by first | assumption | exact Ow.divw64 (by omega) (by omega) | exact Ow.mul0 ⟨by omega, by omega⟩ | exact Ow.mul1 ⟨by omega, by omega⟩ | exact Ow.shl0 (by omega) (by omega) (by omega) | exact ⟨by omega, by omega⟩ | exact ⟨by omega, by omega, by omega⟩ | omega | (simp only [List.length_append, List.length_cons, List.length_nil]; omega) | (subst_vars; omega))⟩
          · rintro _ Hn_2 ⟨_, _, rfl, h11, h12⟩
            exact ((by first | assumption | exact Ow.divw64 (by omega) (by omega) | exact Ow.mul0 ⟨by omega, by omega⟩ | exact Ow.mul1 ⟨by omega, by omega⟩ | exact Ow.shl0 (by omega) (by omega) (by omega) | exact ⟨by omega, by omega⟩ | exact ⟨by omega, by omega, by omega⟩ | omega | (simp only [List.length_append, List.length_cons, List.length_nil]; omega) | (subst_vars; omega) | exact absurd (Option.some.inj (h_it.symm.trans c6.1)) (by assumption) | (have e := s1 m_2 (by subst h_s; exact hm_m_2); subst_vars; omega) | (have e := Ow.stp_next c6 h_it_2 (by omega); subst_vars; omega) | (have e := Ow.stp_val c6 h_it_2 h_it_3 (by omega); subst_vars; omega)) : False).elim
    · refine ⟨_, rfl, ?_⟩
      refine iteT ?_
      refine iteT ?_
      exact ((by first | assumption | exact Ow.divw64 (by omega) (by omega) | exact Ow.mul0 ⟨by omega, by omega⟩ | exact Ow.mul1 ⟨by omega, by omega⟩ | exact Ow.shl0 (by omega) (by omega) (by omega) | exact ⟨by omega, by omega⟩ | exact ⟨by omega, by omega, by omega⟩ | omega | (simp only [List.length_append, List.length_cons, List.length_nil]; omega) | (subst_vars; omega) | exact absurd (Option.some.inj (h_it.symm.trans c6.1)) (by assumption) | (have e := s1 m_2 (by subst h_s; exact hm_m_2); subst_vars; omega) | (have e := Ow.stp_next c6 h_it_2 (by omega); subst_vars; omega) | (have e := Ow.stp_val c6 h_it_2 h_it_3 (by omega); subst_vars; omega)) : False).elim
theorem ok_rest_of (T : Tx K mg) : FnOk P w K mg base CX0 4 T.d_rest_of.f T.d_rest_of.fd ["width", "x", "d", "q"] (sp_rest_of K) := by
  refine T.d_rest_of.F.ok sc_rest_of (fun vs H Q E h => ?_) (fun cdv A outer s H vs Q E hr h => ?_)
  · obtain ⟨width, x, d, q, rfl, _⟩ := h
    rfl
  · obtain ⟨width, x, d, q, rfl, c0, c1, c2, c3, c4, c5, kont⟩ := h
    have p32_width := Ow.pow2_le32 (w := width) (by omega)
    have p0_width := Ow.p2 width.toNat
    refine ⟨_, (pss_cons (ps_expr (pe_call (Ow.ok_need_divisor T) (hr.mono (by decide : 3 ≤ 3)) (by rfl) T.d_need_divisor.m T.d_need_divisor.F.kp T.d_need_divisor.b .nil pass0 (pa_cons (pv 0) (pa_cons (pv 2) pa_nil))))
        (pss_one (ps_ret (pe_ix ix_tup (pe_call (Ow.ok_gap_of T) (hr.mono (by decide : 3 ≤ 3)) (by rfl) T.d_gap_of.m T.d_gap_of.F.kp T.d_gap_of.b .nil pass0 (pa_cons (pv 0) (pa_cons (pv 1) (pa_cons (pe_call (Ow.ok_low_product T) (hr.mono (by decide : 3 ≤ 3)) (by rfl) T.d_low_product.m T.d_low_product.F.kp T.d_low_product.b .nil pass0 (pa_cons (pv 0) (pa_cons (pv 3) (pa_cons (pv 2) pa_nil)))) pa_nil)))) pe_int (fun _ _ => rfl))))), ?_⟩
    refine ⟨_, rfl, ?_⟩
    refine ⟨_, rfl, ?_⟩
    refine ⟨_, _, rfl, (by first | assumption | exact Ow.divw64 (by omega) (by omega) | exact Ow.mul0 ⟨by omega, by omega⟩ | exact Ow.mul1 ⟨by omega, by omega⟩ | exact Ow.shl0 (by omega) (by omega) (by omega) | exact ⟨by omega, by omega⟩ | exact ⟨by omega, by omega, by omega⟩ | omega | (simp only [List.length_append, List.length_cons, List.length_nil]; omega) | (subst_vars; omega)), (by first | assumption | exact Ow.divw64 (by omega) (by omega) | exact Ow.mul0 ⟨by omega, by omega⟩ | exact Ow.mul1 ⟨by omega, by omega⟩ | exact Ow.shl0 (by omega) (by omega) (by omega) | exact ⟨by omega, by omega⟩ | exact ⟨by omega, by omega, by omega⟩ | omega | (simp only [List.length_append, List.length_cons, List.length_nil]; omega) | (subst_vars; omega)), (by first | assumption | exact Ow.divw64 (by omega) (by omega) | exact Ow.mul0 ⟨by omega, by omega⟩ | exact Ow.mul1 ⟨by omega, by omega⟩ | exact Ow.shl0 (by omega) (by omega) (by omega) | exact ⟨by omega, by omega⟩ | exact ⟨by omega, by omega, by omega⟩ | omega | (simp only [List.length_append, List.length_cons, List.length_nil]; omega) | (subst_vars; omega)), (by first | assumption | exact Ow.divw64 (by omega) (by omega) | exact Ow.mul0 ⟨by omega, by omega⟩ | exact Ow.mul1 ⟨by omega, by omega⟩ | exact Ow.shl0 (by omega) (by omega) (by omega) | exact ⟨by omega, by omega⟩ | exact ⟨by omega, by omega, by omega⟩ | omega | (simp only [List.length_append, List.length_cons, List.length_nil]; omega) | (subst_vars; omega)), ?_⟩
    refine ⟨_, rfl, ?_⟩
    refine ⟨_, rfl, ?_⟩
    refine ⟨_, rfl, ?_⟩
    refine ⟨_, rfl, ?_⟩
    refine ⟨_, rfl, ?_⟩
    refine ⟨_, _, _, rfl, (by first | assumption | exact Ow.divw64 (by omega) (by omega) | exact Ow.mul0 ⟨by omega, by omega⟩ | exact Ow.mul1 ⟨by omega, by omega⟩ | exact Ow.shl0 (by omega) (by omega) (by omega) | exact ⟨by omega, by omega⟩ | exact ⟨by omega, by omega, by omega⟩ | omega | (simp only [List.length_append, List.length_cons, List.length_nil]; omega) | (subst_vars; omega)), (by first | assumption | exact Ow.divw64 (by omega) (by omega) | exact Ow.mul0 ⟨by omega, by omega⟩ | exact Ow.mul1 ⟨by omega, by omega⟩ | exact Ow.shl0 (by omega) (by omega) (by omega) | exact ⟨by omega, by omega⟩ | exact ⟨by omega, by omega, by omega⟩ | omega | (simp only [List.length_append, List.length_cons, List.length_nil]; omega) | (subst_vars; omega)), (by first | assumption | exact Ow.divw64 (by omega) (by omega) | exact Ow.mul0 ⟨by omega, by omega⟩ | exact Ow.mul1 ⟨by omega, by omega⟩ | exact Ow.shl0 (by omega) (by omega) (by omega) | exact ⟨by omega, by omega⟩ | exact ⟨by omega, by omega, by omega⟩ | omega | (simp only [List.length_append, List.length_cons, List.length_nil]; omega) | (subst_vars; omega)), (by first | assumption | exact Ow.divw64 (by omega) (by omega) | exact Ow.mul0 ⟨by omega, by omega⟩ | exact Ow.mul1 ⟨by omega, by omega⟩ | exact Ow.shl0 (by omega) (by omega) (by omega) | exact ⟨by omega, by omega⟩ | exact ⟨by omega, by omega, by omega⟩ | omega | (simp only [List.length_append, List.length_cons, List.length_nil]; omega) | (subst_vars; omega)), fun t h1 h2 h3 => ?_⟩
    refine ⟨_, _, _, rfl, (by first | assumption | exact Ow.divw64 (by omega) (by omega) | exact Ow.mul0 ⟨by omega, by omega⟩ | exact Ow.mul1 ⟨by omega, by omega⟩ | exact Ow.shl0 (by omega) (by omega) (by omega) | exact ⟨by omega, by omega⟩ | exact ⟨by omega, by omega, by omega⟩ | omega | (simp only [List.length_append, List.length_cons, List.length_nil]; omega) | (subst_vars; omega)), (by first | assumption | exact Ow.divw64 (by omega) (by omega) | exact Ow.mul0 ⟨by omega, by omega⟩ | exact Ow.mul1 ⟨by omega, by omega⟩ | exact Ow.shl0 (by omega) (by omega) (by omega) | exact ⟨by omega, by omega⟩ | exact ⟨by omega, by omega, by omega⟩ | omega | (simp only [List.length_append, List.length_cons, List.length_nil]; omega) | (subst_vars; omega)), fun x_2 y h4 h5 h6 p h_p => ?_⟩
    refine ⟨_, _, _, _, rfl, rfl, (SqT.of upd_same), (by first | rfl | decide), ?_⟩
    have e1 := Ow.rest_mod x (q * d) (2 ^ width.toNat)
    exact kont x_2 (by first | assumption | exact Ow.divw64 (by omega) (by omega) | exact Ow.mul0 ⟨by omega, by omega⟩ | exact Ow.mul1 ⟨by omega, by omega⟩ | exact Ow.shl0 (by omega) (by omega) (by omega) | exact ⟨by omega, by omega⟩ | exact ⟨by omega, by omega, by omega⟩ | omega | (simp only [List.length_append, List.length_cons, List.length_nil]; omega) | (subst_vars; omega)) _ (Ow.same_new h_p)
theorem ok_l_rest_right (T : Tx K mg) : FnOk P w K mg base CX0 5 T.d_l_rest_right.f T.d_l_rest_right.fd ["_law_width", "_law_x", "_law_d", "_law_q"] (sp_l_rest_right K) := by
  refine T.d_l_rest_right.F.ok sc_l_rest_right (fun vs H Q E h => ?_) (fun cdv A outer s H vs Q E hr h => ?_)
  · obtain ⟨width, x, d, q, rfl, _⟩ := h
    rfl
  · obtain ⟨width, x, d, q, rfl, c0, c1, c2, c3, c4, c5, kont⟩ := h
    have p32_width := Ow.pow2_le32 (w := width) (by omega)
    have p0_width := Ow.p2 width.toNat
    refine ⟨_, (pss_cons (ps_set (i := 4) sc_l_rest_right.nd rfl (Or.inl rfl) (pe_call (Ow.ok_rest_of T) (hr.mono (by decide : 4 ≤ 4)) (by rfl) T.d_rest_of.m T.d_rest_of.F.kp T.d_rest_of.b .nil pass0 (pa_cons (pv 0) (pa_cons (pv 1) (pa_cons (pv 2) (pa_cons (pv 3) pa_nil))))))
        (pss_one (ps_ret (pe_and (pe_call (Ow.ok_l_whole T) (hr.mono (by decide : 1 ≤ 4)) (by rfl) T.d_l_whole.m T.d_l_whole.F.kp T.d_l_whole.b .nil pass0 (pa_cons (pv 4) pa_nil)) (pe_one (pe_cmpR op_eq (pv 4) (pe_op Ow.op_modN (pe_op op_sub (pv 1) (pe_op Ow.op_mulN (pv 3) (pv 2))) (pe_op Ow.op_shl1 pe_int (pv 0))) (nomark _))))))), ?_⟩
    refine ⟨_, rfl, ?_⟩
    refine ⟨_, rfl, ?_⟩
    refine ⟨_, rfl, ?_⟩
    refine ⟨_, rfl, ?_⟩
    refine ⟨_, _, _, _, rfl, (by first | assumption | exact Ow.divw64 (by omega) (by omega) | exact Ow.mul0 ⟨by omega, by omega⟩ | exact Ow.mul1 ⟨by omega, by omega⟩ | exact Ow.shl0 (by omega) (by omega) (by omega) | exact ⟨by omega, by omega⟩ | exact ⟨by omega, by omega, by omega⟩ | omega | (simp only [List.length_append, List.length_cons, List.length_nil]; omega) | (subst_vars; omega)), (by first | assumption | exact Ow.divw64 (by omega) (by omega) | exact Ow.mul0 ⟨by omega, by omega⟩ | exact Ow.mul1 ⟨by omega, by omega⟩ | exact Ow.shl0 (by omega) (by omega) (by omega) | exact ⟨by omega, by omega⟩ | exact ⟨by omega, by omega, by omega⟩ | omega | (simp only [List.length_append, List.length_cons, List.length_nil]; omega) | (subst_vars; omega)), (by first | assumption | exact Ow.divw64 (by omega) (by omega) | exact Ow.mul0 ⟨by omega, by omega⟩ | exact Ow.mul1 ⟨by omega, by omega⟩ | exact Ow.shl0 (by omega) (by omega) (by omega) | exact ⟨by omega, by omega⟩ | exact ⟨by omega, by omega, by omega⟩ | omega | (simp only [List.length_append, List.length_cons, List.length_nil]; omega) | (subst_vars; omega)), (by first | assumption | exact Ow.divw64 (by omega) (by omega) | exact Ow.mul0 ⟨by omega, by omega⟩ | exact Ow.mul1 ⟨by omega, by omega⟩ | exact Ow.shl0 (by omega) (by omega) (by omega) | exact ⟨by omega, by omega⟩ | exact ⟨by omega, by omega, by omega⟩ | omega | (simp only [List.length_append, List.length_cons, List.length_nil]; omega) | (subst_vars; omega)), (by first | assumption | exact Ow.divw64 (by omega) (by omega) | exact Ow.mul0 ⟨by omega, by omega⟩ | exact Ow.mul1 ⟨by omega, by omega⟩ | exact Ow.shl0 (by omega) (by omega) (by omega) | exact ⟨by omega, by omega⟩ | exact ⟨by omega, by omega, by omega⟩ | omega | (simp only [List.length_append, List.length_cons, List.length_nil]; omega) | (subst_vars; omega)), (by first | assumption | exact Ow.divw64 (by omega) (by omega) | exact Ow.mul0 ⟨by omega, by omega⟩ | exact Ow.mul1 ⟨by omega, by omega⟩ | exact Ow.shl0 (by omega) (by omega) (by omega) | exact ⟨by omega, by omega⟩ | exact ⟨by omega, by omega, by omega⟩ | omega | (simp only [List.length_append, List.length_cons, List.length_nil]; omega) | (subst_vars; omega)), fun l_found h1 Hn h2 => ?_⟩
    refine ⟨_, rfl, ?_⟩
    refine ⟨_, rfl, ?_⟩
    refine ⟨_, rfl, ?_⟩
    refine iteT ?_
    refine ⟨_, rfl, ?_⟩
    refine ⟨_, rfl, ?_⟩
    refine ⟨_, rfl, ?_⟩
    refine ⟨_, rfl, ?_⟩
    refine ⟨_, _, rfl, rfl, (by first | assumption | exact Ow.divw64 (by omega) (by omega) | exact Ow.mul0 ⟨by omega, by omega⟩ | exact Ow.mul1 ⟨by omega, by omega⟩ | exact Ow.shl0 (by omega) (by omega) (by omega) | exact ⟨by omega, by omega⟩ | exact ⟨by omega, by omega, by omega⟩ | omega | (simp only [List.length_append, List.length_cons, List.length_nil]; omega) | (subst_vars; omega)), fun m h_m => ?_⟩
    refine ⟨_, _, rfl, rfl, ?_⟩
    refine ⟨_, rfl, ?_⟩
    refine ⟨_, rfl, rfl, (by first | assumption | exact Ow.divw64 (by omega) (by omega) | exact Ow.mul0 ⟨by omega, by omega⟩ | exact Ow.mul1 ⟨by omega, by omega⟩ | exact Ow.shl0 (by omega) (by omega) (by omega) | exact ⟨by omega, by omega⟩ | exact ⟨by omega, by omega, by omega⟩ | omega | (simp only [List.length_append, List.length_cons, List.length_nil]; omega) | (subst_vars; omega)), fun B h_B h0_B => ?_⟩
    refine ⟨_, _, rfl, rfl, (by first | assumption | exact Ow.divw64 (by omega) (by omega) | exact Ow.mul0 ⟨by omega, by omega⟩ | exact Ow.mul1 ⟨by omega, by omega⟩ | exact Ow.shl0 (by omega) (by omega) (by omega) | exact ⟨by omega, by omega⟩ | exact ⟨by omega, by omega, by omega⟩ | omega | (simp only [List.length_append, List.length_cons, List.length_nil]; omega) | (subst_vars; omega)), fun r h_r h0_r h1_r => ?_⟩
    refine ⟨rfl, ?_⟩
    refine Ow.eqeqi (by first | assumption | exact Ow.divw64 (by omega) (by omega) | exact Ow.mul0 ⟨by omega, by omega⟩ | exact Ow.mul1 ⟨by omega, by omega⟩ | exact Ow.shl0 (by omega) (by omega) (by omega) | exact ⟨by omega, by omega⟩ | exact ⟨by omega, by omega, by omega⟩ | omega | (simp only [List.length_append, List.length_cons, List.length_nil]; omega) | (subst_vars; omega)) ?_
    exact kont _ h2
theorem ok_l_case (T : Tx K mg) : FnOk P w K mg base CX0 6 T.d_l_case.f T.d_l_case.fd ["_law_state"] (sp_l_case K) := by
  refine T.d_l_case.F.ok sc_l_case (fun vs H Q E h => ?_) (fun cdv A outer s H vs Q E hr h => ?_)
  · obtain ⟨box, a, c, rfl, _⟩ := h
    rfl
  · obtain ⟨box, a, c, rfl, c0, kont⟩ := h
    refine ⟨_, (pss_cons (ps_set (i := 1) sc_l_case.nd rfl (Or.inl rfl) (Ow.pe_nmi (pe_op op_add pe_int (pe_call (Ow.ok_l_draw T) (hr.mono (by decide : 1 ≤ 5)) (by rfl) T.d_l_draw.m T.d_l_draw.F.kp T.d_l_draw.b .nil pass0 (pa_cons (pv 0) (pa_cons pe_int pa_nil))))))
        (pss_cons (ps_set (i := 2) sc_l_case.nd rfl (Or.inl rfl) (Ow.pe_nmi (pe_op op_add (pe_op Ow.op_mulN pe_int (pe_call (Ow.ok_l_draw T) (hr.mono (by decide : 1 ≤ 5)) (by rfl) T.d_l_draw.m T.d_l_draw.F.kp T.d_l_draw.b .nil pass0 (pa_cons (pv 0) (pa_cons (pe_op Ow.op_shl1 pe_int (pe_op op_sub (pv 1) pe_int)) pa_nil)))) pe_int)))
        (pss_cons (ps_set (i := 3) sc_l_case.nd rfl (Or.inl rfl) (pe_call (Ow.ok_inverse T) (hr.mono (by decide : 5 ≤ 5)) (by rfl) T.d_inverse.m T.d_inverse.F.kp T.d_inverse.b .nil pass0 (pa_cons (pv 1) (pa_cons (pv 2) pa_nil))))
        (pss_cons (ps_set (i := 4) sc_l_case.nd rfl (Or.inl rfl) (pe_call (Ow.ok_inverse_steps T) (hr.mono (by decide : 4 ≤ 5)) (by rfl) T.d_inverse_steps.m T.d_inverse_steps.F.kp T.d_inverse_steps.b .nil pass0 (pa_cons (pv 1) (pa_cons (pv 2) pa_nil))))
        (pss_cons (ps_if (PW.pt (pw_or (pt_not (pt_val (pe_call (Ow.ok_l_steps_right T) (hr.mono (by decide : 2 ≤ 5)) (by rfl) T.d_l_steps_right.m T.d_l_steps_right.F.kp T.d_l_steps_right.b .nil pass0 (pa_cons (pv 1) (pa_cons (pv 2) (pa_cons (pv 4) pa_nil)))))) (pw_or (pt_not (pt_val (pe_call (Ow.ok_l_whole T) (hr.mono (by decide : 1 ≤ 5)) (by rfl) T.d_l_whole.m T.d_l_whole.F.kp T.d_l_whole.b .nil pass0 (pa_cons (pv 3) pa_nil)))) (pw_or1 (pt_cmpR op_ne (pv 3) (pe_ix ix_list (pv 4) (pe_op op_sub (Ow.pe_nmi (pe_callB call_len_seq (by rfl) T.z_len (by decide +kernel) (pa_cons (pv 4) pa_nil))) pe_int) (fun _ _ => rfl)) (nomark _)))))) (pss_one (ps_ret pe_bl)) pss_nil)
        (pss_cons (ps_expr (pe_bm PySem.F.plainAttrs_list PySem.F.slot_list_append PySem.F.type_list_append mt_append (pv 4) (pa_cons pe_int pa_nil)))
        (pss_cons (ps_asg pe_int (pg_sub (pv 4) pe_int set_list))
        (pss_cons (ps_if (pt_not (pt_val (pe_call (Ow.ok_l_steps_right T) (hr.mono (by decide : 2 ≤ 5)) (by rfl) T.d_l_steps_right.m T.d_l_steps_right.F.kp T.d_l_steps_right.b .nil pass0 (pa_cons (pv 1) (pa_cons (pv 2) (pa_cons (pe_call (Ow.ok_inverse_steps T) (hr.mono (by decide : 4 ≤ 5)) (by rfl) T.d_inverse_steps.m T.d_inverse_steps.F.kp T.d_inverse_steps.b .nil pass0 (pa_cons (pv 1) (pa_cons (pv 2) pa_nil))) pa_nil)))))) (pss_one (ps_ret pe_bl)) pss_nil)
        (pss_cons (ps_set (i := 2) sc_l_case.nd rfl (Or.inl rfl) (pe_call (Ow.ok_l_divisor T) (hr.mono (by decide : 2 ≤ 5)) (by rfl) T.d_l_divisor.m T.d_l_divisor.F.kp T.d_l_divisor.b .nil pass0 (pa_cons (pv 0) (pa_cons (pv 1) pa_nil))))
        (pss_cons (ps_set (i := 5) sc_l_case.nd rfl (Or.inl rfl) (pe_call (Ow.ok_l_draw T) (hr.mono (by decide : 1 ≤ 5)) (by rfl) T.d_l_draw.m T.d_l_draw.F.kp T.d_l_draw.b .nil pass0 (pa_cons (pv 0) (pa_cons (pe_op Ow.op_shl1 pe_int (pv 1)) pa_nil))))
        (pss_cons (ps_if (pt_cmpR op_eq (pe_call (Ow.ok_l_draw T) (hr.mono (by decide : 1 ≤ 5)) (by rfl) T.d_l_draw.m T.d_l_draw.F.kp T.d_l_draw.b .nil pass0 (pa_cons (pv 0) (pa_cons pe_int pa_nil))) pe_int (nomark _)) (pss_one (ps_set (i := 5) sc_l_case.nd rfl (Or.inl rfl) (Ow.pe_nmi (pe_op op_sub (pe_op op_sub (pe_op Ow.op_shl1 pe_int (pv 1)) pe_int) (pe_call (Ow.ok_l_draw T) (hr.mono (by decide : 1 ≤ 5)) (by rfl) T.d_l_draw.m T.d_l_draw.F.kp T.d_l_draw.b .nil pass0 (pa_cons (pv 0) (pa_cons pe_int pa_nil))))))) pss_nil)
        (pss_cons (ps_if (pt_not (pt_val (pe_call (Ow.ok_l_rest_right T) (hr.mono (by decide : 5 ≤ 5)) (by rfl) T.d_l_rest_right.m T.d_l_rest_right.F.kp T.d_l_rest_right.b .nil pass0 (pa_cons (pv 1) (pa_cons (pv 5) (pa_cons (pv 2) (pa_cons (pe_call (Ow.ok_l_draw T) (hr.mono (by decide : 1 ≤ 5)) (by rfl) T.d_l_draw.m T.d_l_draw.F.kp T.d_l_draw.b .nil pass0 (pa_cons (pv 0) (pa_cons (pe_op Ow.op_shl1 pe_int (pv 1)) pa_nil))) pa_nil))))))) (pss_one (ps_ret pe_bl)) pss_nil)
        (pss_one (ps_ret (pe_and (pe_call (Ow.ok_l_rest_right T) (hr.mono (by decide : 5 ≤ 5)) (by rfl) T.d_l_rest_right.m T.d_l_rest_right.F.kp T.d_l_rest_right.b .nil pass0 (pa_cons (pv 1) (pa_cons (pv 5) (pa_cons (pv 2) (pa_cons (pe_op Ow.op_divN (pv 5) (pv 2)) pa_nil))))) (pe_one (pe_cmpR op_eq (pe_call (Ow.ok_rest_of T) (hr.mono (by decide : 4 ≤ 5)) (by rfl) T.d_rest_of.m T.d_rest_of.F.kp T.d_rest_of.b .nil pass0 (pa_cons (pv 1) (pa_cons (pv 5) (pa_cons (pv 2) (pa_cons (pe_op Ow.op_divN (pv 5) (pv 2)) pa_nil))))) (pe_op Ow.op_modN (pv 5) (pv 2)) (nomark _)))))))))))))))))), ?_⟩
    refine ⟨_, rfl, ?_⟩
    refine ⟨_, _, _, _, rfl, c0, (by first | assumption | exact Ow.divw64 (by omega) (by omega) | exact Ow.mul0 ⟨by omega, by omega⟩ | exact Ow.mul1 ⟨by omega, by omega⟩ | exact Ow.shl0 (by omega) (by omega) (by omega) | exact ⟨by omega, by omega⟩ | exact ⟨by omega, by omega, by omega⟩ | omega | (simp only [List.length_append, List.length_cons, List.length_nil]; omega) | (subst_vars; omega)), (by first | assumption | exact Ow.divw64 (by omega) (by omega) | exact Ow.mul0 ⟨by omega, by omega⟩ | exact Ow.mul1 ⟨by omega, by omega⟩ | exact Ow.shl0 (by omega) (by omega) (by omega) | exact ⟨by omega, by omega⟩ | exact ⟨by omega, by omega, by omega⟩ | omega | (simp only [List.length_append, List.length_cons, List.length_nil]; omega) | (subst_vars; omega)), fun t a2 c2 h1 h2 => ?_⟩
    refine ⟨_, _, rfl, rfl, ?_⟩
    refine ⟨_, rfl, fun l_width h_l_width => ?_⟩
    have z_l_width : Ow.Sz 6 l_width := by rw [h_l_width]; exact (Ow.Sz.add (Ow.Sz.mono (Ow.Sz.lit (n := 3) (i := 4) (by decide)) (by decide : 3 ≤ 5)) (Ow.Sz.rng (n := 5) h1 h2 (by decide)))
    have e2 := Ow.pow2_pred (w := l_width) (by omega)
    have p32 := Ow.pow2_le32 (w := l_width) (by omega)
    have p33 := Ow.p2 (l_width - 1).toNat
    refine ⟨_, rfl, ?_⟩
    refine ⟨_, rfl, ?_⟩
    refine ⟨_, _, rfl, rfl, ?_⟩
    refine ⟨_, rfl, rfl, (by first | assumption | exact Ow.divw64 (by omega) (by omega) | exact Ow.mul0 ⟨by omega, by omega⟩ | exact Ow.mul1 ⟨by omega, by omega⟩ | exact Ow.shl0 (by omega) (by omega) (by omega) | exact ⟨by omega, by omega⟩ | exact ⟨by omega, by omega, by omega⟩ | omega | (simp only [List.length_append, List.length_cons, List.length_nil]; omega) | (subst_vars; omega)), fun B h_B h0_B => ?_⟩
    refine ⟨_, _, _, _, rfl, upd_same, (by first | assumption | exact Ow.divw64 (by omega) (by omega) | exact Ow.mul0 ⟨by omega, by omega⟩ | exact Ow.mul1 ⟨by omega, by omega⟩ | exact Ow.shl0 (by omega) (by omega) (by omega) | exact ⟨by omega, by omega⟩ | exact ⟨by omega, by omega, by omega⟩ | omega | (simp only [List.length_append, List.length_cons, List.length_nil]; omega) | (subst_vars; omega)), (by first | assumption | exact Ow.divw64 (by omega) (by omega) | exact Ow.mul0 ⟨by omega, by omega⟩ | exact Ow.mul1 ⟨by omega, by omega⟩ | exact Ow.shl0 (by omega) (by omega) (by omega) | exact ⟨by omega, by omega⟩ | exact ⟨by omega, by omega, by omega⟩ | omega | (simp only [List.length_append, List.length_cons, List.length_nil]; omega) | (subst_vars; omega)), fun t_2 a2_2 c2_2 h3 h4 => ?_⟩
    refine ⟨_, _, rfl, rfl, (by first | assumption | exact Ow.divw64 (by omega) (by omega) | exact Ow.mul0 ⟨by omega, by omega⟩ | exact Ow.mul1 ⟨by omega, by omega⟩ | exact Ow.shl0 (by omega) (by omega) (by omega) | exact ⟨by omega, by omega⟩ | exact ⟨by omega, by omega, by omega⟩ | omega | (simp only [List.length_append, List.length_cons, List.length_nil]; omega) | (subst_vars; omega)), fun m h_m => ?_⟩
    refine ⟨_, _, rfl, rfl, ?_⟩
    refine ⟨_, rfl, fun l_d h_l_d => ?_⟩
    refine ⟨_, rfl, ?_⟩
    refine ⟨_, rfl, ?_⟩
    refine ⟨_, _, rfl, (by first | assumption | exact Ow.divw64 (by omega) (by omega) | exact Ow.mul0 ⟨by omega, by omega⟩ | exact Ow.mul1 ⟨by omega, by omega⟩ | exact Ow.shl0 (by omega) (by omega) (by omega) | exact ⟨by omega, by omega⟩ | exact ⟨by omega, by omega, by omega⟩ | omega | (simp only [List.length_append, List.length_cons, List.length_nil]; omega) | (subst_vars; omega)), (by first | assumption | exact Ow.divw64 (by omega) (by omega) | exact Ow.mul0 ⟨by omega, by omega⟩ | exact Ow.mul1 ⟨by omega, by omega⟩ | exact Ow.shl0 (by omega) (by omega) (by omega) | exact ⟨by omega, by omega⟩ | exact ⟨by omega, by omega, by omega⟩ | omega | (simp only [List.length_append, List.length_cons, List.length_nil]; omega) | (subst_vars; omega)), (by first | assumption | exact Ow.divw64 (by omega) (by omega) | exact Ow.mul0 ⟨by omega, by omega⟩ | exact Ow.mul1 ⟨by omega, by omega⟩ | exact Ow.shl0 (by omega) (by omega) (by omega) | exact ⟨by omega, by omega⟩ | exact ⟨by omega, by omega, by omega⟩ | omega | (simp only [List.length_append, List.length_cons, List.length_nil]; omega) | (subst_vars; omega)), (by first | assumption | exact Ow.divw64 (by omega) (by omega) | exact Ow.mul0 ⟨by omega, by omega⟩ | exact Ow.mul1 ⟨by omega, by omega⟩ | exact Ow.shl0 (by omega) (by omega) (by omega) | exact ⟨by omega, by omega⟩ | exact ⟨by omega, by omega, by omega⟩ | omega | (simp only [List.length_append, List.length_cons, List.length_nil]; omega) | (subst_vars; omega)), (by first | assumption | exact Ow.divw64 (by omega) (by omega) | exact Ow.mul0 ⟨by omega, by omega⟩ | exact Ow.mul1 ⟨by omega, by omega⟩ | exact Ow.shl0 (by omega) (by omega) (by omega) | exact ⟨by omega, by omega⟩ | exact ⟨by omega, by omega, by omega⟩ | omega | (simp only [List.length_append, List.length_cons, List.length_nil]; omega) | (subst_vars; omega)), fun l_first h5 h6 h7 Hn h8 => ?_⟩
    refine ⟨_, rfl, ?_⟩
    refine ⟨_, rfl, ?_⟩
    refine ⟨_, _, rfl, (by first | assumption | exact Ow.divw64 (by omega) (by omega) | exact Ow.mul0 ⟨by omega, by omega⟩ | exact Ow.mul1 ⟨by omega, by omega⟩ | exact Ow.shl0 (by omega) (by omega) (by omega) | exact ⟨by omega, by omega⟩ | exact ⟨by omega, by omega, by omega⟩ | omega | (simp only [List.length_append, List.length_cons, List.length_nil]; omega) | (subst_vars; omega)), (by first | assumption | exact Ow.divw64 (by omega) (by omega) | exact Ow.mul0 ⟨by omega, by omega⟩ | exact Ow.mul1 ⟨by omega, by omega⟩ | exact Ow.shl0 (by omega) (by omega) (by omega) | exact ⟨by omega, by omega⟩ | exact ⟨by omega, by omega, by omega⟩ | omega | (simp only [List.length_append, List.length_cons, List.length_nil]; omega) | (subst_vars; omega)), (by first | assumption | exact Ow.divw64 (by omega) (by omega) | exact Ow.mul0 ⟨by omega, by omega⟩ | exact Ow.mul1 ⟨by omega, by omega⟩ | exact Ow.shl0 (by omega) (by omega) (by omega) | exact ⟨by omega, by omega⟩ | exact ⟨by omega, by omega, by omega⟩ | omega | (simp only [List.length_append, List.length_cons, List.length_nil]; omega) | (subst_vars; omega)), (by first | assumption | exact Ow.divw64 (by omega) (by omega) | exact Ow.mul0 ⟨by omega, by omega⟩ | exact Ow.mul1 ⟨by omega, by omega⟩ | exact Ow.shl0 (by omega) (by omega) (by omega) | exact ⟨by omega, by omega⟩ | exact ⟨by omega, by omega, by omega⟩ | omega | (simp only [List.length_append, List.length_cons, List.length_nil]; omega) | (subst_vars; omega)), (by first | assumption | exact Ow.divw64 (by omega) (by omega) | exact Ow.mul0 ⟨by omega, by omega⟩ | exact Ow.mul1 ⟨by omega, by omega⟩ | exact Ow.shl0 (by omega) (by omega) (by omega) | exact ⟨by omega, by omega⟩ | exact ⟨by omega, by omega, by omega⟩ | omega | (simp only [List.length_append, List.length_cons, List.length_nil]; omega) | (subst_vars; omega)), fun xs h9 h10 h11 h12 p Hn_2 h13 h14 h15 => ?_⟩
    refine ⟨_, rfl, ?_⟩
    refine ⟨_, rfl, ?_⟩
    refine ⟨_, rfl, ?_⟩
    refine ⟨_, _, _, _, rfl, h15, (by first | assumption | exact Ow.divw64 (by omega) (by omega) | exact Ow.mul0 ⟨by omega, by omega⟩ | exact Ow.mul1 ⟨by omega, by omega⟩ | exact Ow.shl0 (by omega) (by omega) (by omega) | exact ⟨by omega, by omega⟩ | exact ⟨by omega, by omega, by omega⟩ | omega | (simp only [List.length_append, List.length_cons, List.length_nil]; omega) | (subst_vars; omega)), (by first | assumption | exact Ow.divw64 (by omega) (by omega) | exact Ow.mul0 ⟨by omega, by omega⟩ | exact Ow.mul1 ⟨by omega, by omega⟩ | exact Ow.shl0 (by omega) (by omega) (by omega) | exact ⟨by omega, by omega⟩ | exact ⟨by omega, by omega, by omega⟩ | omega | (simp only [List.length_append, List.length_cons, List.length_nil]; omega) | (subst_vars; omega)), (by first | assumption | exact Ow.divw64 (by omega) (by omega) | exact Ow.mul0 ⟨by omega, by omega⟩ | exact Ow.mul1 ⟨by omega, by omega⟩ | exact Ow.shl0 (by omega) (by omega) (by omega) | exact ⟨by omega, by omega⟩ | exact ⟨by omega, by omega, by omega⟩ | omega | (simp only [List.length_append, List.length_cons, List.length_nil]; omega) | (subst_vars; omega)), (by first | assumption | exact Ow.divw64 (by omega) (by omega) | exact Ow.mul0 ⟨by omega, by omega⟩ | exact Ow.mul1 ⟨by omega, by omega⟩ | exact Ow.shl0 (by omega) (by omega) (by omega) | exact ⟨by omega, by omega⟩ | exact ⟨by omega, by omega, by omega⟩ | omega | (simp only [List.length_append, List.length_cons, List.length_nil]; omega) | (subst_vars; omega)), (by first | assumption | exact Ow.divw64 (by omega) (by omega) | exact Ow.mul0 ⟨by omega, by omega⟩ | exact Ow.mul1 ⟨by omega, by omega⟩ | exact Ow.shl0 (by omega) (by omega) (by omega) | exact ⟨by omega, by omega⟩ | exact ⟨by omega, by omega, by omega⟩ | omega | (simp only [List.length_append, List.length_cons, List.length_nil]; omega) | (subst_vars; omega)), (by first | assumption | exact Ow.divw64 (by omega) (by omega) | exact Ow.mul0 ⟨by omega, by omega⟩ | exact Ow.mul1 ⟨by omega, by omega⟩ | exact Ow.shl0 (by omega) (by omega) (by omega) | exact ⟨by omega, by omega⟩ | exact ⟨by omega, by omega, by omega⟩ | omega | (simp only [List.length_append, List.length_cons, List.length_nil]; omega) | (subst_vars; omega)), (by first | assumption | exact Ow.divw64 (by omega) (by omega) | exact Ow.mul0 ⟨by omega, by omega⟩ | exact Ow.mul1 ⟨by omega, by omega⟩ | exact Ow.shl0 (by omega) (by omega) (by omega) | exact ⟨by omega, by omega⟩ | exact ⟨by omega, by omega, by omega⟩ | omega | (simp only [List.length_append, List.length_cons, List.length_nil]; omega) | (subst_vars; omega)), (by first | assumption | exact Ow.divw64 (by omega) (by omega) | exact Ow.mul0 ⟨by omega, by omega⟩ | exact Ow.mul1 ⟨by omega, by omega⟩ | exact Ow.shl0 (by omega) (by omega) (by omega) | exact ⟨by omega, by omega⟩ | exact ⟨by omega, by omega, by omega⟩ | omega | (simp only [List.length_append, List.length_cons, List.length_nil]; omega) | (subst_vars; omega)), (by first | assumption | exact Ow.divw64 (by omega) (by omega) | exact Ow.mul0 ⟨by omega, by omega⟩ | exact Ow.mul1 ⟨by omega, by omega⟩ | exact Ow.shl0 (by omega) (by omega) (by omega) | exact ⟨by omega, by omega⟩ | exact ⟨by omega, by omega, by omega⟩ | omega | (simp only [List.length_append, List.length_cons, List.length_nil]; omega) | (subst_vars; omega)), fun Hn_3 h16 => ?_⟩
    refine ⟨_, rfl, ?_⟩
    refine iteF ?_
    refine ⟨_, rfl, ?_⟩
    refine ⟨_, rfl, ?_⟩
    refine ⟨_, rfl, ?_⟩
    refine iteF ?_
    refine ⟨_, rfl, ?_⟩
    refine ⟨_, rfl, ?_⟩
    refine ⟨_, rfl, ?_⟩
    refine ⟨_, _, rfl, .inl (SqL.of (h16 _ _ h15)), ?_⟩
    refine ⟨_, rfl, fun len h_len => ?_⟩
    rw [List.length_map] at h_len
    refine ⟨_, _, rfl, rfl, ?_⟩
    refine Ow.ixn (xs := xs) (i := len - 1) (SqL.of (h16 _ _ h15)) (by first | assumption | exact Ow.divw64 (by omega) (by omega) | exact Ow.mul0 ⟨by omega, by omega⟩ | exact Ow.mul1 ⟨by omega, by omega⟩ | exact Ow.shl0 (by omega) (by omega) (by omega) | exact ⟨by omega, by omega⟩ | exact ⟨by omega, by omega, by omega⟩ | omega | (simp only [List.length_append, List.length_cons, List.length_nil]; omega) | (subst_vars; omega)) (by first | assumption | exact Ow.divw64 (by omega) (by omega) | exact Ow.mul0 ⟨by omega, by omega⟩ | exact Ow.mul1 ⟨by omega, by omega⟩ | exact Ow.shl0 (by omega) (by omega) (by omega) | exact ⟨by omega, by omega⟩ | exact ⟨by omega, by omega, by omega⟩ | omega | (simp only [List.length_append, List.length_cons, List.length_nil]; omega) | (subst_vars; omega)) (fun it h_it => ?_)
    refine ⟨rfl, ?_⟩
    refine ⟨_, rfl, ?_⟩
    refine Ow.ifnei (fun h17 => ?_) (fun h17 => ?_)
    · exact ((by first | assumption | exact Ow.divw64 (by omega) (by omega) | exact Ow.mul0 ⟨by omega, by omega⟩ | exact Ow.mul1 ⟨by omega, by omega⟩ | exact Ow.shl0 (by omega) (by omega) (by omega) | exact ⟨by omega, by omega⟩ | exact ⟨by omega, by omega, by omega⟩ | omega | (simp only [List.length_append, List.length_cons, List.length_nil]; omega) | (subst_vars; omega) | (have g1 := Ow.last_ix h_it (by omega) (by omega); have g2 := Ow.stp_last (by assumption) g1; have g3 := (by assumption : ∀ l, xs.getLast? = some l → l * l_d % 2 ^ l_width.toNat = 1) _ g1; exact absurd (Ow.inv_uniq (M := 2 ^ l_width.toNat) (Ow.pow_gt1 (by omega)) (by assumption) (by assumption) g2.1 g2.2 (by assumption) g3) (by assumption))) : False).elim
    · refine ⟨_, rfl, ?_⟩
      refine ⟨.inl ⟨rfl, _, (SqL.of (h16 _ _ h15))⟩, ?_⟩
      refine ⟨_, _, _, rfl, rfl, (h16 _ _ h15), (Ow.szl (by rw [List.length_map]; first | assumption | exact Ow.divw64 (by omega) (by omega) | exact Ow.mul0 ⟨by omega, by omega⟩ | exact Ow.mul1 ⟨by omega, by omega⟩ | exact Ow.shl0 (by omega) (by omega) (by omega) | exact ⟨by omega, by omega⟩ | exact ⟨by omega, by omega, by omega⟩ | omega | (simp only [List.length_append, List.length_cons, List.length_nil]; omega) | (subst_vars; omega))), ?_⟩
      refine ⟨_, rfl, ?_⟩
      refine ⟨_, _, _, 0, rfl, rfl, (Ow.ap_ints upd_same), Ow.ixN_nat (by rw [List.length_map]; first | assumption | exact Ow.divw64 (by omega) (by omega) | exact Ow.mul0 ⟨by omega, by omega⟩ | exact Ow.mul1 ⟨by omega, by omega⟩ | exact Ow.shl0 (by omega) (by omega) (by omega) | exact ⟨by omega, by omega⟩ | exact ⟨by omega, by omega, by omega⟩ | omega | (simp only [List.length_append, List.length_cons, List.length_nil]; omega) | (subst_vars; omega)), ?_⟩
      refine ⟨_, rfl, ?_⟩
      refine ⟨_, rfl, ?_⟩
      refine ⟨_, rfl, ?_⟩
      refine ⟨_, rfl, ?_⟩
      refine ⟨_, _, rfl, (by first | assumption | exact Ow.divw64 (by omega) (by omega) | exact Ow.mul0 ⟨by omega, by omega⟩ | exact Ow.mul1 ⟨by omega, by omega⟩ | exact Ow.shl0 (by omega) (by omega) (by omega) | exact ⟨by omega, by omega⟩ | exact ⟨by omega, by omega, by omega⟩ | omega | (simp only [List.length_append, List.length_cons, List.length_nil]; omega) | (subst_vars; omega)), (by first | assumption | exact Ow.divw64 (by omega) (by omega) | exact Ow.mul0 ⟨by omega, by omega⟩ | exact Ow.mul1 ⟨by omega, by omega⟩ | exact Ow.shl0 (by omega) (by omega) (by omega) | exact ⟨by omega, by omega⟩ | exact ⟨by omega, by omega, by omega⟩ | omega | (simp only [List.length_append, List.length_cons, List.length_nil]; omega) | (subst_vars; omega)), (by first | assumption | exact Ow.divw64 (by omega) (by omega) | exact Ow.mul0 ⟨by omega, by omega⟩ | exact Ow.mul1 ⟨by omega, by omega⟩ | exact Ow.shl0 (by omega) (by omega) (by omega) | exact ⟨by omega, by omega⟩ | exact ⟨by omega, by omega, by omega⟩ | omega | (simp only [List.length_append, List.length_cons, List.length_nil]; omega) | (subst_vars; omega)), (by first | assumption | exact Ow.divw64 (by omega) (by omega) | exact Ow.mul0 ⟨by omega, by omega⟩ | exact Ow.mul1 ⟨by omega, by omega⟩ | exact Ow.shl0 (by omega) (by omega) (by omega) | exact ⟨by omega, by omega⟩ | exact ⟨by omega, by omega, by omega⟩ | omega | (simp only [List.length_append, List.length_cons, List.length_nil]; omega) | (subst_vars; omega)), (by first | assumption | exact Ow.divw64 (by omega) (by omega) | exact Ow.mul0 ⟨by omega, by omega⟩ | exact Ow.mul1 ⟨by omega, by omega⟩ | exact Ow.shl0 (by omega) (by omega) (by omega) | exact ⟨by omega, by omega⟩ | exact ⟨by omega, by omega, by omega⟩ | omega | (simp only [List.length_append, List.length_cons, List.length_nil]; omega) | (subst_vars; omega)), fun xs_2 h18 h19 h20 h21 p_2 Hn_4 h22 h23 h24 => ?_⟩
      refine ⟨_, _, _, _, rfl, h24, (by first | assumption | exact Ow.divw64 (by omega) (by omega) | exact Ow.mul0 ⟨by omega, by omega⟩ | exact Ow.mul1 ⟨by omega, by omega⟩ | exact Ow.shl0 (by omega) (by omega) (by omega) | exact ⟨by omega, by omega⟩ | exact ⟨by omega, by omega, by omega⟩ | omega | (simp only [List.length_append, List.length_cons, List.length_nil]; omega) | (subst_vars; omega)), (by first | assumption | exact Ow.divw64 (by omega) (by omega) | exact Ow.mul0 ⟨by omega, by omega⟩ | exact Ow.mul1 ⟨by omega, by omega⟩ | exact Ow.shl0 (by omega) (by omega) (by omega) | exact ⟨by omega, by omega⟩ | exact ⟨by omega, by omega, by omega⟩ | omega | (simp only [List.length_append, List.length_cons, List.length_nil]; omega) | (subst_vars; omega)), (by first | assumption | exact Ow.divw64 (by omega) (by omega) | exact Ow.mul0 ⟨by omega, by omega⟩ | exact Ow.mul1 ⟨by omega, by omega⟩ | exact Ow.shl0 (by omega) (by omega) (by omega) | exact ⟨by omega, by omega⟩ | exact ⟨by omega, by omega, by omega⟩ | omega | (simp only [List.length_append, List.length_cons, List.length_nil]; omega) | (subst_vars; omega)), (by first | assumption | exact Ow.divw64 (by omega) (by omega) | exact Ow.mul0 ⟨by omega, by omega⟩ | exact Ow.mul1 ⟨by omega, by omega⟩ | exact Ow.shl0 (by omega) (by omega) (by omega) | exact ⟨by omega, by omega⟩ | exact ⟨by omega, by omega, by omega⟩ | omega | (simp only [List.length_append, List.length_cons, List.length_nil]; omega) | (subst_vars; omega)), (by first | assumption | exact Ow.divw64 (by omega) (by omega) | exact Ow.mul0 ⟨by omega, by omega⟩ | exact Ow.mul1 ⟨by omega, by omega⟩ | exact Ow.shl0 (by omega) (by omega) (by omega) | exact ⟨by omega, by omega⟩ | exact ⟨by omega, by omega, by omega⟩ | omega | (simp only [List.length_append, List.length_cons, List.length_nil]; omega) | (subst_vars; omega)), (by first | assumption | exact Ow.divw64 (by omega) (by omega) | exact Ow.mul0 ⟨by omega, by omega⟩ | exact Ow.mul1 ⟨by omega, by omega⟩ | exact Ow.shl0 (by omega) (by omega) (by omega) | exact ⟨by omega, by omega⟩ | exact ⟨by omega, by omega, by omega⟩ | omega | (simp only [List.length_append, List.length_cons, List.length_nil]; omega) | (subst_vars; omega)), (by first | assumption | exact Ow.divw64 (by omega) (by omega) | exact Ow.mul0 ⟨by omega, by omega⟩ | exact Ow.mul1 ⟨by omega, by omega⟩ | exact Ow.shl0 (by omega) (by omega) (by omega) | exact ⟨by omega, by omega⟩ | exact ⟨by omega, by omega, by omega⟩ | omega | (simp only [List.length_append, List.length_cons, List.length_nil]; omega) | (subst_vars; omega)), (by first | assumption | exact Ow.divw64 (by omega) (by omega) | exact Ow.mul0 ⟨by omega, by omega⟩ | exact Ow.mul1 ⟨by omega, by omega⟩ | exact Ow.shl0 (by omega) (by omega) (by omega) | exact ⟨by omega, by omega⟩ | exact ⟨by omega, by omega, by omega⟩ | omega | (simp only [List.length_append, List.length_cons, List.length_nil]; omega) | (subst_vars; omega)), (by first | assumption | exact Ow.divw64 (by omega) (by omega) | exact Ow.mul0 ⟨by omega, by omega⟩ | exact Ow.mul1 ⟨by omega, by omega⟩ | exact Ow.shl0 (by omega) (by omega) (by omega) | exact ⟨by omega, by omega⟩ | exact ⟨by omega, by omega, by omega⟩ | omega | (simp only [List.length_append, List.length_cons, List.length_nil]; omega) | (subst_vars; omega)), fun Hn_5 h25 => ?_⟩
      refine ⟨_, rfl, ?_⟩
      refine iteF ?_
      refine ⟨_, rfl, ?_⟩
      refine ⟨_, rfl, ?_⟩
      refine ⟨_, _, _, _, rfl, (h25 _ _ (h22 _ _ (Ow.at_mut (ne_of_none (h8 _ _ upd_same) h14) (Ow.at_mut (ne_of_none (h8 _ _ upd_same) h14) (h16 _ _ (h13 _ _ (h8 _ _ upd_same))))))), (by first | assumption | exact Ow.divw64 (by omega) (by omega) | exact Ow.mul0 ⟨by omega, by omega⟩ | exact Ow.mul1 ⟨by omega, by omega⟩ | exact Ow.shl0 (by omega) (by omega) (by omega) | exact ⟨by omega, by omega⟩ | exact ⟨by omega, by omega, by omega⟩ | omega | (simp only [List.length_append, List.length_cons, List.length_nil]; omega) | (subst_vars; omega)), (by first | assumption | exact Ow.divw64 (by omega) (by omega) | exact Ow.mul0 ⟨by omega, by omega⟩ | exact Ow.mul1 ⟨by omega, by omega⟩ | exact Ow.shl0 (by omega) (by omega) (by omega) | exact ⟨by omega, by omega⟩ | exact ⟨by omega, by omega, by omega⟩ | omega | (simp only [List.length_append, List.length_cons, List.length_nil]; omega) | (subst_vars; omega)), fun l_d_2 a2_3 c2_3 h26 h27 => ?_⟩
      refine ⟨_, rfl, ?_⟩
      refine ⟨_, rfl, ?_⟩
      refine ⟨_, rfl, rfl, (by first | assumption | exact Ow.divw64 (by omega) (by omega) | exact Ow.mul0 ⟨by omega, by omega⟩ | exact Ow.mul1 ⟨by omega, by omega⟩ | exact Ow.shl0 (by omega) (by omega) (by omega) | exact ⟨by omega, by omega⟩ | exact ⟨by omega, by omega, by omega⟩ | omega | (simp only [List.length_append, List.length_cons, List.length_nil]; omega) | (subst_vars; omega)), fun B_2 h_B_2 h0_B_2 => ?_⟩
      refine ⟨_, _, _, _, rfl, upd_same, (by first | assumption | exact Ow.divw64 (by omega) (by omega) | exact Ow.mul0 ⟨by omega, by omega⟩ | exact Ow.mul1 ⟨by omega, by omega⟩ | exact Ow.shl0 (by omega) (by omega) (by omega) | exact ⟨by omega, by omega⟩ | exact ⟨by omega, by omega, by omega⟩ | omega | (simp only [List.length_append, List.length_cons, List.length_nil]; omega) | (subst_vars; omega)), (by first | assumption | exact Ow.divw64 (by omega) (by omega) | exact Ow.mul0 ⟨by omega, by omega⟩ | exact Ow.mul1 ⟨by omega, by omega⟩ | exact Ow.shl0 (by omega) (by omega) (by omega) | exact ⟨by omega, by omega⟩ | exact ⟨by omega, by omega, by omega⟩ | omega | (simp only [List.length_append, List.length_cons, List.length_nil]; omega) | (subst_vars; omega)), fun l_x a2_4 c2_4 h28 h29 => ?_⟩
      refine ⟨_, rfl, ?_⟩
      refine ⟨_, _, _, _, rfl, upd_same, (by first | assumption | exact Ow.divw64 (by omega) (by omega) | exact Ow.mul0 ⟨by omega, by omega⟩ | exact Ow.mul1 ⟨by omega, by omega⟩ | exact Ow.shl0 (by omega) (by omega) (by omega) | exact ⟨by omega, by omega⟩ | exact ⟨by omega, by omega, by omega⟩ | omega | (simp only [List.length_append, List.length_cons, List.length_nil]; omega) | (subst_vars; omega)), (by first | assumption | exact Ow.divw64 (by omega) (by omega) | exact Ow.mul0 ⟨by omega, by omega⟩ | exact Ow.mul1 ⟨by omega, by omega⟩ | exact Ow.shl0 (by omega) (by omega) (by omega) | exact ⟨by omega, by omega⟩ | exact ⟨by omega, by omega, by omega⟩ | omega | (simp only [List.length_append, List.length_cons, List.length_nil]; omega) | (subst_vars; omega)), fun t_3 a2_5 c2_5 h30 h31 => ?_⟩
      refine ⟨rfl, ?_⟩
      refine ⟨_, rfl, ?_⟩
      refine Ow.ifeqi (fun h32 => ?_) (fun h32 => ?_)
      · refine ⟨_, rfl, ?_⟩
        refine ⟨_, rfl, rfl, (by first | assumption | exact Ow.divw64 (by omega) (by omega) | exact Ow.mul0 ⟨by omega, by omega⟩ | exact Ow.mul1 ⟨by omega, by omega⟩ | exact Ow.shl0 (by omega) (by omega) (by omega) | exact ⟨by omega, by omega⟩ | exact ⟨by omega, by omega, by omega⟩ | omega | (simp only [List.length_append, List.length_cons, List.length_nil]; omega) | (subst_vars; omega)), fun B_3 h_B_3 h0_B_3 => ?_⟩
        refine ⟨_, _, rfl, rfl, ?_⟩
        refine ⟨_, rfl, ?_⟩
        refine ⟨_, _, _, _, rfl, upd_same, (by first | assumption | exact Ow.divw64 (by omega) (by omega) | exact Ow.mul0 ⟨by omega, by omega⟩ | exact Ow.mul1 ⟨by omega, by omega⟩ | exact Ow.shl0 (by omega) (by omega) (by omega) | exact ⟨by omega, by omega⟩ | exact ⟨by omega, by omega, by omega⟩ | omega | (simp only [List.length_append, List.length_cons, List.length_nil]; omega) | (subst_vars; omega)), (by first | assumption | exact Ow.divw64 (by omega) (by omega) | exact Ow.mul0 ⟨by omega, by omega⟩ | exact Ow.mul1 ⟨by omega, by omega⟩ | exact Ow.shl0 (by omega) (by omega) (by omega) | exact ⟨by omega, by omega⟩ | exact ⟨by omega, by omega, by omega⟩ | omega | (simp only [List.length_append, List.length_cons, List.length_nil]; omega) | (subst_vars; omega)), fun t_4 a2_6 c2_6 h33 h34 => ?_⟩
        refine ⟨_, _, rfl, rfl, ?_⟩
        refine ⟨_, rfl, fun l_x_2 h_l_x_2 => ?_⟩
        refine ⟨_, rfl, ?_⟩
        refine ⟨_, rfl, ?_⟩
        refine ⟨_, rfl, ?_⟩
        refine ⟨_, rfl, ?_⟩
        refine ⟨_, rfl, ?_⟩
        refine ⟨_, rfl, rfl, (by first | assumption | exact Ow.divw64 (by omega) (by omega) | exact Ow.mul0 ⟨by omega, by omega⟩ | exact Ow.mul1 ⟨by omega, by omega⟩ | exact Ow.shl0 (by omega) (by omega) (by omega) | exact ⟨by omega, by omega⟩ | exact ⟨by omega, by omega, by omega⟩ | omega | (simp only [List.length_append, List.length_cons, List.length_nil]; omega) | (subst_vars; omega)), fun B_4 h_B_4 h0_B_4 => ?_⟩
        refine ⟨_, _, _, _, rfl, upd_same, (by first | assumption | exact Ow.divw64 (by omega) (by omega) | exact Ow.mul0 ⟨by omega, by omega⟩ | exact Ow.mul1 ⟨by omega, by omega⟩ | exact Ow.shl0 (by omega) (by omega) (by omega) | exact ⟨by omega, by omega⟩ | exact ⟨by omega, by omega, by omega⟩ | omega | (simp only [List.length_append, List.length_cons, List.length_nil]; omega) | (subst_vars; omega)), (by first | assumption | exact Ow.divw64 (by omega) (by omega) | exact Ow.mul0 ⟨by omega, by omega⟩ | exact Ow.mul1 ⟨by omega, by omega⟩ | exact Ow.shl0 (by omega) (by omega) (by omega) | exact ⟨by omega, by omega⟩ | exact ⟨by omega, by omega, by omega⟩ | omega | (simp only [List.length_append, List.length_cons, List.length_nil]; omega) | (subst_vars; omega)), fun t_5 a2_7 c2_7 h35 h36 => ?_⟩
        refine ⟨_, _, _, _, rfl, (by first | assumption | exact Ow.divw64 (by omega) (by omega) | exact Ow.mul0 ⟨by omega, by omega⟩ | exact Ow.mul1 ⟨by omega, by omega⟩ | exact Ow.shl0 (by omega) (by omega) (by omega) | exact ⟨by omega, by omega⟩ | exact ⟨by omega, by omega, by omega⟩ | omega | (simp only [List.length_append, List.length_cons, List.length_nil]; omega) | (subst_vars; omega) | ((first | rw [h_q] | rw [h_q_2] | rw [h_q_3] | rw [h_q_4]); first | exact (Ow.quo_word (M := 2 ^ l_width.toNat) (by omega) (by omega) (by omega)).1 | exact (Ow.quo_word (M := 2 ^ l_width.toNat) (by omega) (by omega) (by omega)).2)), (by first | assumption | exact Ow.divw64 (by omega) (by omega) | exact Ow.mul0 ⟨by omega, by omega⟩ | exact Ow.mul1 ⟨by omega, by omega⟩ | exact Ow.shl0 (by omega) (by omega) (by omega) | exact ⟨by omega, by omega⟩ | exact ⟨by omega, by omega, by omega⟩ | omega | (simp only [List.length_append, List.length_cons, List.length_nil]; omega) | (subst_vars; omega) | ((first | rw [h_q] | rw [h_q_2] | rw [h_q_3] | rw [h_q_4]); first | exact (Ow.quo_word (M := 2 ^ l_width.toNat) (by omega) (by omega) (by omega)).1 | exact (Ow.quo_word (M := 2 ^ l_width.toNat) (by omega) (by omega) (by omega)).2)), (by first | assumption | exact Ow.divw64 (by omega) (by omega) | exact Ow.mul0 ⟨by omega, by omega⟩ | exact Ow.mul1 ⟨by omega, by omega⟩ | exact Ow.shl0 (by omega) (by omega) (by omega) | exact ⟨by omega, by omega⟩ | exact ⟨by omega, by omega, by omega⟩ | omega | (simp only [List.length_append, List.length_cons, List.length_nil]; omega) | (subst_vars; omega) | ((first | rw [h_q] | rw [h_q_2] | rw [h_q_3] | rw [h_q_4]); first | exact (Ow.quo_word (M := 2 ^ l_width.toNat) (by omega) (by omega) (by omega)).1 | exact (Ow.quo_word (M := 2 ^ l_width.toNat) (by omega) (by omega) (by omega)).2)), (by first | assumption | exact Ow.divw64 (by omega) (by omega) | exact Ow.mul0 ⟨by omega, by omega⟩ | exact Ow.mul1 ⟨by omega, by omega⟩ | exact Ow.shl0 (by omega) (by omega) (by omega) | exact ⟨by omega, by omega⟩ | exact ⟨by omega, by omega, by omega⟩ | omega | (simp only [List.length_append, List.length_cons, List.length_nil]; omega) | (subst_vars; omega) | ((first | rw [h_q] | rw [h_q_2] | rw [h_q_3] | rw [h_q_4]); first | exact (Ow.quo_word (M := 2 ^ l_width.toNat) (by omega) (by omega) (by omega)).1 | exact (Ow.quo_word (M := 2 ^ l_width.toNat) (by omega) (by omega) (by omega)).2)), (by first | assumption | exact Ow.divw64 (by omega) (by omega) | exact Ow.mul0 ⟨by omega, by omega⟩ | exact Ow.mul1 ⟨by omega, by omega⟩ | exact Ow.shl0 (by omega) (by omega) (by omega) | exact ⟨by omega, by omega⟩ | exact ⟨by omega, by omega, by omega⟩ | omega | (simp only [List.length_append, List.length_cons, List.length_nil]; omega) | (subst_vars; omega) | ((first | rw [h_q] | rw [h_q_2] | rw [h_q_3] | rw [h_q_4]); first | exact (Ow.quo_word (M := 2 ^ l_width.toNat) (by omega) (by omega) (by omega)).1 | exact (Ow.quo_word (M := 2 ^ l_width.toNat) (by omega) (by omega) (by omega)).2)), (by first | assumption | exact Ow.divw64 (by omega) (by omega) | exact Ow.mul0 ⟨by omega, by omega⟩ | exact Ow.mul1 ⟨by omega, by omega⟩ | exact Ow.shl0 (by omega) (by omega) (by omega) | exact ⟨by omega, by omega⟩ | exact ⟨by omega, by omega, by omega⟩ | omega | (simp only [List.length_append, List.length_cons, List.length_nil]; omega) | (subst_vars; omega) | ((first | rw [h_q] | rw [h_q_2] | rw [h_q_3] | rw [h_q_4]); first | exact (Ow.quo_word (M := 2 ^ l_width.toNat) (by omega) (by omega) (by omega)).1 | exact (Ow.quo_word (M := 2 ^ l_width.toNat) (by omega) (by omega) (by omega)).2)), fun Hn_6 h37 => ?_⟩
        refine ⟨_, rfl, ?_⟩
        refine iteF ?_
        refine ⟨_, rfl, ?_⟩
        refine ⟨_, rfl, ?_⟩
        refine ⟨_, rfl, ?_⟩
        refine ⟨_, rfl, ?_⟩
        refine ⟨_, rfl, ?_⟩
        refine ⟨_, _, rfl, rfl, (by first | assumption | exact Ow.divw64 (by omega) (by omega) | exact Ow.mul0 ⟨by omega, by omega⟩ | exact Ow.mul1 ⟨by omega, by omega⟩ | exact Ow.shl0 (by omega) (by omega) (by omega) | exact ⟨by omega, by omega⟩ | exact ⟨by omega, by omega, by omega⟩ | omega | (simp only [List.length_append, List.length_cons, List.length_nil]; omega) | (subst_vars; omega)), fun q h_q => ?_⟩
        refine ⟨_, _, _, _, rfl, (by first | assumption | exact Ow.divw64 (by omega) (by omega) | exact Ow.mul0 ⟨by omega, by omega⟩ | exact Ow.mul1 ⟨by omega, by omega⟩ | exact Ow.shl0 (by omega) (by omega) (by omega) | exact ⟨by omega, by omega⟩ | exact ⟨by omega, by omega, by omega⟩ | omega | (simp only [List.length_append, List.length_cons, List.length_nil]; omega) | (subst_vars; omega) | ((first | rw [h_q] | rw [h_q_2] | rw [h_q_3] | rw [h_q_4]); first | exact (Ow.quo_word (M := 2 ^ l_width.toNat) (by omega) (by omega) (by omega)).1 | exact (Ow.quo_word (M := 2 ^ l_width.toNat) (by omega) (by omega) (by omega)).2)), (by first | assumption | exact Ow.divw64 (by omega) (by omega) | exact Ow.mul0 ⟨by omega, by omega⟩ | exact Ow.mul1 ⟨by omega, by omega⟩ | exact Ow.shl0 (by omega) (by omega) (by omega) | exact ⟨by omega, by omega⟩ | exact ⟨by omega, by omega, by omega⟩ | omega | (simp only [List.length_append, List.length_cons, List.length_nil]; omega) | (subst_vars; omega) | ((first | rw [h_q] | rw [h_q_2] | rw [h_q_3] | rw [h_q_4]); first | exact (Ow.quo_word (M := 2 ^ l_width.toNat) (by omega) (by omega) (by omega)).1 | exact (Ow.quo_word (M := 2 ^ l_width.toNat) (by omega) (by omega) (by omega)).2)), (by first | assumption | exact Ow.divw64 (by omega) (by omega) | exact Ow.mul0 ⟨by omega, by omega⟩ | exact Ow.mul1 ⟨by omega, by omega⟩ | exact Ow.shl0 (by omega) (by omega) (by omega) | exact ⟨by omega, by omega⟩ | exact ⟨by omega, by omega, by omega⟩ | omega | (simp only [List.length_append, List.length_cons, List.length_nil]; omega) | (subst_vars; omega) | ((first | rw [h_q] | rw [h_q_2] | rw [h_q_3] | rw [h_q_4]); first | exact (Ow.quo_word (M := 2 ^ l_width.toNat) (by omega) (by omega) (by omega)).1 | exact (Ow.quo_word (M := 2 ^ l_width.toNat) (by omega) (by omega) (by omega)).2)), (by first | assumption | exact Ow.divw64 (by omega) (by omega) | exact Ow.mul0 ⟨by omega, by omega⟩ | exact Ow.mul1 ⟨by omega, by omega⟩ | exact Ow.shl0 (by omega) (by omega) (by omega) | exact ⟨by omega, by omega⟩ | exact ⟨by omega, by omega, by omega⟩ | omega | (simp only [List.length_append, List.length_cons, List.length_nil]; omega) | (subst_vars; omega) | ((first | rw [h_q] | rw [h_q_2] | rw [h_q_3] | rw [h_q_4]); first | exact (Ow.quo_word (M := 2 ^ l_width.toNat) (by omega) (by omega) (by omega)).1 | exact (Ow.quo_word (M := 2 ^ l_width.toNat) (by omega) (by omega) (by omega)).2)), (by first | assumption | exact Ow.divw64 (by omega) (by omega) | exact Ow.mul0 ⟨by omega, by omega⟩ | exact Ow.mul1 ⟨by omega, by omega⟩ | exact Ow.shl0 (by omega) (by omega) (by omega) | exact ⟨by omega, by omega⟩ | exact ⟨by omega, by omega, by omega⟩ | omega | (simp only [List.length_append, List.length_cons, List.length_nil]; omega) | (subst_vars; omega) | ((first | rw [h_q] | rw [h_q_2] | rw [h_q_3] | rw [h_q_4]); first | exact (Ow.quo_word (M := 2 ^ l_width.toNat) (by omega) (by omega) (by omega)).1 | exact (Ow.quo_word (M := 2 ^ l_width.toNat) (by omega) (by omega) (by omega)).2)), (by first | assumption | exact Ow.divw64 (by omega) (by omega) | exact Ow.mul0 ⟨by omega, by omega⟩ | exact Ow.mul1 ⟨by omega, by omega⟩ | exact Ow.shl0 (by omega) (by omega) (by omega) | exact ⟨by omega, by omega⟩ | exact ⟨by omega, by omega, by omega⟩ | omega | (simp only [List.length_append, List.length_cons, List.length_nil]; omega) | (subst_vars; omega) | ((first | rw [h_q] | rw [h_q_2] | rw [h_q_3] | rw [h_q_4]); first | exact (Ow.quo_word (M := 2 ^ l_width.toNat) (by omega) (by omega) (by omega)).1 | exact (Ow.quo_word (M := 2 ^ l_width.toNat) (by omega) (by omega) (by omega)).2)), fun Hn_7 h38 => ?_⟩
        refine ⟨_, rfl, ?_⟩
        refine iteT ?_
        refine ⟨_, rfl, ?_⟩
        refine ⟨_, rfl, ?_⟩
        refine ⟨_, rfl, ?_⟩
        refine ⟨_, rfl, ?_⟩
        refine ⟨_, rfl, ?_⟩
        refine ⟨_, _, rfl, rfl, (by first | assumption | exact Ow.divw64 (by omega) (by omega) | exact Ow.mul0 ⟨by omega, by omega⟩ | exact Ow.mul1 ⟨by omega, by omega⟩ | exact Ow.shl0 (by omega) (by omega) (by omega) | exact ⟨by omega, by omega⟩ | exact ⟨by omega, by omega, by omega⟩ | omega | (simp only [List.length_append, List.length_cons, List.length_nil]; omega) | (subst_vars; omega)), fun q_2 h_q_2 => ?_⟩
        refine ⟨_, _, _, _, rfl, (by first | assumption | exact Ow.divw64 (by omega) (by omega) | exact Ow.mul0 ⟨by omega, by omega⟩ | exact Ow.mul1 ⟨by omega, by omega⟩ | exact Ow.shl0 (by omega) (by omega) (by omega) | exact ⟨by omega, by omega⟩ | exact ⟨by omega, by omega, by omega⟩ | omega | (simp only [List.length_append, List.length_cons, List.length_nil]; omega) | (subst_vars; omega) | ((first | rw [h_q] | rw [h_q_2] | rw [h_q_3] | rw [h_q_4]); first | exact (Ow.quo_word (M := 2 ^ l_width.toNat) (by omega) (by omega) (by omega)).1 | exact (Ow.quo_word (M := 2 ^ l_width.toNat) (by omega) (by omega) (by omega)).2)), (by first | assumption | exact Ow.divw64 (by omega) (by omega) | exact Ow.mul0 ⟨by omega, by omega⟩ | exact Ow.mul1 ⟨by omega, by omega⟩ | exact Ow.shl0 (by omega) (by omega) (by omega) | exact ⟨by omega, by omega⟩ | exact ⟨by omega, by omega, by omega⟩ | omega | (simp only [List.length_append, List.length_cons, List.length_nil]; omega) | (subst_vars; omega) | ((first | rw [h_q] | rw [h_q_2] | rw [h_q_3] | rw [h_q_4]); first | exact (Ow.quo_word (M := 2 ^ l_width.toNat) (by omega) (by omega) (by omega)).1 | exact (Ow.quo_word (M := 2 ^ l_width.toNat) (by omega) (by omega) (by omega)).2)), (by first | assumption | exact Ow.divw64 (by omega) (by omega) | exact Ow.mul0 ⟨by omega, by omega⟩ | exact Ow.mul1 ⟨by omega, by omega⟩ | exact Ow.shl0 (by omega) (by omega) (by omega) | exact ⟨by omega, by omega⟩ | exact ⟨by omega, by omega, by omega⟩ | omega | (simp only [List.length_append, List.length_cons, List.length_nil]; omega) | (subst_vars; omega) | ((first | rw [h_q] | rw [h_q_2] | rw [h_q_3] | rw [h_q_4]); first | exact (Ow.quo_word (M := 2 ^ l_width.toNat) (by omega) (by omega) (by omega)).1 | exact (Ow.quo_word (M := 2 ^ l_width.toNat) (by omega) (by omega) (by omega)).2)), (by first | assumption | exact Ow.divw64 (by omega) (by omega) | exact Ow.mul0 ⟨by omega, by omega⟩ | exact Ow.mul1 ⟨by omega, by omega⟩ | exact Ow.shl0 (by omega) (by omega) (by omega) | exact ⟨by omega, by omega⟩ | exact ⟨by omega, by omega, by omega⟩ | omega | (simp only [List.length_append, List.length_cons, List.length_nil]; omega) | (subst_vars; omega) | ((first | rw [h_q] | rw [h_q_2] | rw [h_q_3] | rw [h_q_4]); first | exact (Ow.quo_word (M := 2 ^ l_width.toNat) (by omega) (by omega) (by omega)).1 | exact (Ow.quo_word (M := 2 ^ l_width.toNat) (by omega) (by omega) (by omega)).2)), (by first | assumption | exact Ow.divw64 (by omega) (by omega) | exact Ow.mul0 ⟨by omega, by omega⟩ | exact Ow.mul1 ⟨by omega, by omega⟩ | exact Ow.shl0 (by omega) (by omega) (by omega) | exact ⟨by omega, by omega⟩ | exact ⟨by omega, by omega, by omega⟩ | omega | (simp only [List.length_append, List.length_cons, List.length_nil]; omega) | (subst_vars; omega) | ((first | rw [h_q] | rw [h_q_2] | rw [h_q_3] | rw [h_q_4]); first | exact (Ow.quo_word (M := 2 ^ l_width.toNat) (by omega) (by omega) (by omega)).1 | exact (Ow.quo_word (M := 2 ^ l_width.toNat) (by omega) (by omega) (by omega)).2)), (by first | assumption | exact Ow.divw64 (by omega) (by omega) | exact Ow.mul0 ⟨by omega, by omega⟩ | exact Ow.mul1 ⟨by omega, by omega⟩ | exact Ow.shl0 (by omega) (by omega) (by omega) | exact ⟨by omega, by omega⟩ | exact ⟨by omega, by omega, by omega⟩ | omega | (simp only [List.length_append, List.length_cons, List.length_nil]; omega) | (subst_vars; omega) | ((first | rw [h_q] | rw [h_q_2] | rw [h_q_3] | rw [h_q_4]); first | exact (Ow.quo_word (M := 2 ^ l_width.toNat) (by omega) (by omega) (by omega)).1 | exact (Ow.quo_word (M := 2 ^ l_width.toNat) (by omega) (by omega) (by omega)).2)), fun t_6 h39 Hn_8 h40 => ?_⟩
        refine ⟨_, rfl, ?_⟩
        refine ⟨_, rfl, ?_⟩
        refine ⟨_, _, rfl, rfl, (by first | assumption | exact Ow.divw64 (by omega) (by omega) | exact Ow.mul0 ⟨by omega, by omega⟩ | exact Ow.mul1 ⟨by omega, by omega⟩ | exact Ow.shl0 (by omega) (by omega) (by omega) | exact ⟨by omega, by omega⟩ | exact ⟨by omega, by omega, by omega⟩ | omega | (simp only [List.length_append, List.length_cons, List.length_nil]; omega) | (subst_vars; omega)), fun r h_r h0_r h1_r => ?_⟩
        refine ⟨rfl, ?_⟩
        refine Ow.eqeqi (by first | assumption | exact Ow.divw64 (by omega) (by omega) | exact Ow.mul0 ⟨by omega, by omega⟩ | exact Ow.mul1 ⟨by omega, by omega⟩ | exact Ow.shl0 (by omega) (by omega) (by omega) | exact ⟨by omega, by omega⟩ | exact ⟨by omega, by omega, by omega⟩ | omega | (simp only [List.length_append, List.length_cons, List.length_nil]; omega) | (subst_vars; omega) | (subst_vars; exact Ow.rest_quo (by omega) (by omega) (by omega))) ?_
        exact kont a2_7 c2_7 _ (((((((((((((((((Ow.Fm.refl.mut).mut).same h8).same h13).same h16).mutF (Ow.Fm.free (((Ow.Fm.refl.mut).mut).same h8) (h8 _ _ upd_same) h14)).mutF (Ow.Fm.free (((Ow.Fm.refl.mut).mut).same h8) (h8 _ _ upd_same) h14)).same h22).same h25).mut).mut).mut).mut).mut).same h37).same h38).same h40) (h40 _ _ (h38 _ _ (h37 _ _ upd_same)))
      · refine ⟨_, rfl, ?_⟩
        refine ⟨_, rfl, ?_⟩
        refine ⟨_, rfl, ?_⟩
        refine ⟨_, rfl, ?_⟩
        refine ⟨_, rfl, ?_⟩
        refine ⟨_, rfl, rfl, (by first | assumption | exact Ow.divw64 (by omega) (by omega) | exact Ow.mul0 ⟨by omega, by omega⟩ | exact Ow.mul1 ⟨by omega, by omega⟩ | exact Ow.shl0 (by omega) (by omega) (by omega) | exact ⟨by omega, by omega⟩ | exact ⟨by omega, by omega, by omega⟩ | omega | (simp only [List.length_append, List.length_cons, List.length_nil]; omega) | (subst_vars; omega)), fun B_5 h_B_5 h0_B_5 => ?_⟩
        refine ⟨_, _, _, _, rfl, upd_same, (by first | assumption | exact Ow.divw64 (by omega) (by omega) | exact Ow.mul0 ⟨by omega, by omega⟩ | exact Ow.mul1 ⟨by omega, by omega⟩ | exact Ow.shl0 (by omega) (by omega) (by omega) | exact ⟨by omega, by omega⟩ | exact ⟨by omega, by omega, by omega⟩ | omega | (simp only [List.length_append, List.length_cons, List.length_nil]; omega) | (subst_vars; omega)), (by first | assumption | exact Ow.divw64 (by omega) (by omega) | exact Ow.mul0 ⟨by omega, by omega⟩ | exact Ow.mul1 ⟨by omega, by omega⟩ | exact Ow.shl0 (by omega) (by omega) (by omega) | exact ⟨by omega, by omega⟩ | exact ⟨by omega, by omega, by omega⟩ | omega | (simp only [List.length_append, List.length_cons, List.length_nil]; omega) | (subst_vars; omega)), fun t_7 a2_8 c2_8 h41 h42 => ?_⟩
        refine ⟨_, _, _, _, rfl, (by first | assumption | exact Ow.divw64 (by omega) (by omega) | exact Ow.mul0 ⟨by omega, by omega⟩ | exact Ow.mul1 ⟨by omega, by omega⟩ | exact Ow.shl0 (by omega) (by omega) (by omega) | exact ⟨by omega, by omega⟩ | exact ⟨by omega, by omega, by omega⟩ | omega | (simp only [List.length_append, List.length_cons, List.length_nil]; omega) | (subst_vars; omega) | ((first | rw [h_q] | rw [h_q_2] | rw [h_q_3] | rw [h_q_4]); first | exact (Ow.quo_word (M := 2 ^ l_width.toNat) (by omega) (by omega) (by omega)).1 | exact (Ow.quo_word (M := 2 ^ l_width.toNat) (by omega) (by omega) (by omega)).2)), (by first | assumption | exact Ow.divw64 (by omega) (by omega) | exact Ow.mul0 ⟨by omega, by omega⟩ | exact Ow.mul1 ⟨by omega, by omega⟩ | exact Ow.shl0 (by omega) (by omega) (by omega) | exact ⟨by omega, by omega⟩ | exact ⟨by omega, by omega, by omega⟩ | omega | (simp only [List.length_append, List.length_cons, List.length_nil]; omega) | (subst_vars; omega) | ((first | rw [h_q] | rw [h_q_2] | rw [h_q_3] | rw [h_q_4]); first | exact (Ow.quo_word (M := 2 ^ l_width.toNat) (by omega) (by omega) (by omega)).1 | exact (Ow.quo_word (M := 2 ^ l_width.toNat) (by omega) (by omega) (by omega)).2)), (by first | assumption | exact Ow.divw64 (by omega) (by omega) | exact Ow.mul0 ⟨by omega, by omega⟩ | exact Ow.mul1 ⟨by omega, by omega⟩ | exact Ow.shl0 (by omega) (by omega) (by omega) | exact ⟨by omega, by omega⟩ | exact ⟨by omega, by omega, by omega⟩ | omega | (simp only [List.length_append, List.length_cons, List.length_nil]; omega) | (subst_vars; omega) | ((first | rw [h_q] | rw [h_q_2] | rw [h_q_3] | rw [h_q_4]); first | exact (Ow.quo_word (M := 2 ^ l_width.toNat) (by omega) (by omega) (by omega)).1 | exact (Ow.quo_word (M := 2 ^ l_width.toNat) (by omega) (by omega) (by omega)).2)), (by first | assumption | exact Ow.divw64 (by omega) (by omega) | exact Ow.mul0 ⟨by omega, by omega⟩ | exact Ow.mul1 ⟨by omega, by omega⟩ | exact Ow.shl0 (by omega) (by omega) (by omega) | exact ⟨by omega, by omega⟩ | exact ⟨by omega, by omega, by omega⟩ | omega | (simp only [List.length_append, List.length_cons, List.length_nil]; omega) | (subst_vars; omega) | ((first | rw [h_q] | rw [h_q_2] | rw [h_q_3] | rw [h_q_4]); first | exact (Ow.quo_word (M := 2 ^ l_width.toNat) (by omega) (by omega) (by omega)).1 | exact (Ow.quo_word (M := 2 ^ l_width.toNat) (by omega) (by omega) (by omega)).2)), (by first | assumption | exact Ow.divw64 (by omega) (by omega) | exact Ow.mul0 ⟨by omega, by omega⟩ | exact Ow.mul1 ⟨by omega, by omega⟩ | exact Ow.shl0 (by omega) (by omega) (by omega) | exact ⟨by omega, by omega⟩ | exact ⟨by omega, by omega, by omega⟩ | omega | (simp only [List.length_append, List.length_cons, List.length_nil]; omega) | (subst_vars; omega) | ((first | rw [h_q] | rw [h_q_2] | rw [h_q_3] | rw [h_q_4]); first | exact (Ow.quo_word (M := 2 ^ l_width.toNat) (by omega) (by omega) (by omega)).1 | exact (Ow.quo_word (M := 2 ^ l_width.toNat) (by omega) (by omega) (by omega)).2)), (by first | assumption | exact Ow.divw64 (by omega) (by omega) | exact Ow.mul0 ⟨by omega, by omega⟩ | exact Ow.mul1 ⟨by omega, by omega⟩ | exact Ow.shl0 (by omega) (by omega) (by omega) | exact ⟨by omega, by omega⟩ | exact ⟨by omega, by omega, by omega⟩ | omega | (simp only [List.length_append, List.length_cons, List.length_nil]; omega) | (subst_vars; omega) | ((first | rw [h_q] | rw [h_q_2] | rw [h_q_3] | rw [h_q_4]); first | exact (Ow.quo_word (M := 2 ^ l_width.toNat) (by omega) (by omega) (by omega)).1 | exact (Ow.quo_word (M := 2 ^ l_width.toNat) (by omega) (by omega) (by omega)).2)), fun Hn_9 h43 => ?_⟩
        refine ⟨_, rfl, ?_⟩
        refine iteF ?_
        refine ⟨_, rfl, ?_⟩
        refine ⟨_, rfl, ?_⟩
        refine ⟨_, rfl, ?_⟩
        refine ⟨_, rfl, ?_⟩
        refine ⟨_, rfl, ?_⟩
        refine ⟨_, _, rfl, rfl, (by first | assumption | exact Ow.divw64 (by omega) (by omega) | exact Ow.mul0 ⟨by omega, by omega⟩ | exact Ow.mul1 ⟨by omega, by omega⟩ | exact Ow.shl0 (by omega) (by omega) (by omega) | exact ⟨by omega, by omega⟩ | exact ⟨by omega, by omega, by omega⟩ | omega | (simp only [List.length_append, List.length_cons, List.length_nil]; omega) | (subst_vars; omega)), fun q_3 h_q_3 => ?_⟩
        refine ⟨_, _, _, _, rfl, (by first | assumption | exact Ow.divw64 (by omega) (by omega) | exact Ow.mul0 ⟨by omega, by omega⟩ | exact Ow.mul1 ⟨by omega, by omega⟩ | exact Ow.shl0 (by omega) (by omega) (by omega) | exact ⟨by omega, by omega⟩ | exact ⟨by omega, by omega, by omega⟩ | omega | (simp only [List.length_append, List.length_cons, List.length_nil]; omega) | (subst_vars; omega) | ((first | rw [h_q] | rw [h_q_2] | rw [h_q_3] | rw [h_q_4]); first | exact (Ow.quo_word (M := 2 ^ l_width.toNat) (by omega) (by omega) (by omega)).1 | exact (Ow.quo_word (M := 2 ^ l_width.toNat) (by omega) (by omega) (by omega)).2)), (by first | assumption | exact Ow.divw64 (by omega) (by omega) | exact Ow.mul0 ⟨by omega, by omega⟩ | exact Ow.mul1 ⟨by omega, by omega⟩ | exact Ow.shl0 (by omega) (by omega) (by omega) | exact ⟨by omega, by omega⟩ | exact ⟨by omega, by omega, by omega⟩ | omega | (simp only [List.length_append, List.length_cons, List.length_nil]; omega) | (subst_vars; omega) | ((first | rw [h_q] | rw [h_q_2] | rw [h_q_3] | rw [h_q_4]); first | exact (Ow.quo_word (M := 2 ^ l_width.toNat) (by omega) (by omega) (by omega)).1 | exact (Ow.quo_word (M := 2 ^ l_width.toNat) (by omega) (by omega) (by omega)).2)), (by first | assumption | exact Ow.divw64 (by omega) (by omega) | exact Ow.mul0 ⟨by omega, by omega⟩ | exact Ow.mul1 ⟨by omega, by omega⟩ | exact Ow.shl0 (by omega) (by omega) (by omega) | exact ⟨by omega, by omega⟩ | exact ⟨by omega, by omega, by omega⟩ | omega | (simp only [List.length_append, List.length_cons, List.length_nil]; omega) | (subst_vars; omega) | ((first | rw [h_q] | rw [h_q_2] | rw [h_q_3] | rw [h_q_4]); first | exact (Ow.quo_word (M := 2 ^ l_width.toNat) (by omega) (by omega) (by omega)).1 | exact (Ow.quo_word (M := 2 ^ l_width.toNat) (by omega) (by omega) (by omega)).2)), (by first | assumption | exact Ow.divw64 (by omega) (by omega) | exact Ow.mul0 ⟨by omega, by omega⟩ | exact Ow.mul1 ⟨by omega, by omega⟩ | exact Ow.shl0 (by omega) (by omega) (by omega) | exact ⟨by omega, by omega⟩ | exact ⟨by omega, by omega, by omega⟩ | omega | (simp only [List.length_append, List.length_cons, List.length_nil]; omega) | (subst_vars; omega) | ((first | rw [h_q] | rw [h_q_2] | rw [h_q_3] | rw [h_q_4]); first | exact (Ow.quo_word (M := 2 ^ l_width.toNat) (by omega) (by omega) (by omega)).1 | exact (Ow.quo_word (M := 2 ^ l_width.toNat) (by omega) (by omega) (by omega)).2)), (by first | assumption | exact Ow.divw64 (by omega) (by omega) | exact Ow.mul0 ⟨by omega, by omega⟩ | exact Ow.mul1 ⟨by omega, by omega⟩ | exact Ow.shl0 (by omega) (by omega) (by omega) | exact ⟨by omega, by omega⟩ | exact ⟨by omega, by omega, by omega⟩ | omega | (simp only [List.length_append, List.length_cons, List.length_nil]; omega) | (subst_vars; omega) | ((first | rw [h_q] | rw [h_q_2] | rw [h_q_3] | rw [h_q_4]); first | exact (Ow.quo_word (M := 2 ^ l_width.toNat) (by omega) (by omega) (by omega)).1 | exact (Ow.quo_word (M := 2 ^ l_width.toNat) (by omega) (by omega) (by omega)).2)), (by first | assumption | exact Ow.divw64 (by omega) (by omega) | exact Ow.mul0 ⟨by omega, by omega⟩ | exact Ow.mul1 ⟨by omega, by omega⟩ | exact Ow.shl0 (by omega) (by omega) (by omega) | exact ⟨by omega, by omega⟩ | exact ⟨by omega, by omega, by omega⟩ | omega | (simp only [List.length_append, List.length_cons, List.length_nil]; omega) | (subst_vars; omega) | ((first | rw [h_q] | rw [h_q_2] | rw [h_q_3] | rw [h_q_4]); first | exact (Ow.quo_word (M := 2 ^ l_width.toNat) (by omega) (by omega) (by omega)).1 | exact (Ow.quo_word (M := 2 ^ l_width.toNat) (by omega) (by omega) (by omega)).2)), fun Hn_10 h44 => ?_⟩
        refine ⟨_, rfl, ?_⟩
        refine iteT ?_
        refine ⟨_, rfl, ?_⟩
        refine ⟨_, rfl, ?_⟩
        refine ⟨_, rfl, ?_⟩
        refine ⟨_, rfl, ?_⟩
        refine ⟨_, rfl, ?_⟩
        refine ⟨_, _, rfl, rfl, (by first | assumption | exact Ow.divw64 (by omega) (by omega) | exact Ow.mul0 ⟨by omega, by omega⟩ | exact Ow.mul1 ⟨by omega, by omega⟩ | exact Ow.shl0 (by omega) (by omega) (by omega) | exact ⟨by omega, by omega⟩ | exact ⟨by omega, by omega, by omega⟩ | omega | (simp only [List.length_append, List.length_cons, List.length_nil]; omega) | (subst_vars; omega)), fun q_4 h_q_4 => ?_⟩
        refine ⟨_, _, _, _, rfl, (by first | assumption | exact Ow.divw64 (by omega) (by omega) | exact Ow.mul0 ⟨by omega, by omega⟩ | exact Ow.mul1 ⟨by omega, by omega⟩ | exact Ow.shl0 (by omega) (by omega) (by omega) | exact ⟨by omega, by omega⟩ | exact ⟨by omega, by omega, by omega⟩ | omega | (simp only [List.length_append, List.length_cons, List.length_nil]; omega) | (subst_vars; omega) | ((first | rw [h_q] | rw [h_q_2] | rw [h_q_3] | rw [h_q_4]); first | exact (Ow.quo_word (M := 2 ^ l_width.toNat) (by omega) (by omega) (by omega)).1 | exact (Ow.quo_word (M := 2 ^ l_width.toNat) (by omega) (by omega) (by omega)).2)), (by first | assumption | exact Ow.divw64 (by omega) (by omega) | exact Ow.mul0 ⟨by omega, by omega⟩ | exact Ow.mul1 ⟨by omega, by omega⟩ | exact Ow.shl0 (by omega) (by omega) (by omega) | exact ⟨by omega, by omega⟩ | exact ⟨by omega, by omega, by omega⟩ | omega | (simp only [List.length_append, List.length_cons, List.length_nil]; omega) | (subst_vars; omega) | ((first | rw [h_q] | rw [h_q_2] | rw [h_q_3] | rw [h_q_4]); first | exact (Ow.quo_word (M := 2 ^ l_width.toNat) (by omega) (by omega) (by omega)).1 | exact (Ow.quo_word (M := 2 ^ l_width.toNat) (by omega) (by omega) (by omega)).2)), (by first | assumption | exact Ow.divw64 (by omega) (by omega) | exact Ow.mul0 ⟨by omega, by omega⟩ | exact Ow.mul1 ⟨by omega, by omega⟩ | exact Ow.shl0 (by omega) (by omega) (by omega) | exact ⟨by omega, by omega⟩ | exact ⟨by omega, by omega, by omega⟩ | omega | (simp only [List.length_append, List.length_cons, List.length_nil]; omega) | (subst_vars; omega) | ((first | rw [h_q] | rw [h_q_2] | rw [h_q_3] | rw [h_q_4]); first | exact (Ow.quo_word (M := 2 ^ l_width.toNat) (by omega) (by omega) (by omega)).1 | exact (Ow.quo_word (M := 2 ^ l_width.toNat) (by omega) (by omega) (by omega)).2)), (by first | assumption | exact Ow.divw64 (by omega) (by omega) | exact Ow.mul0 ⟨by omega, by omega⟩ | exact Ow.mul1 ⟨by omega, by omega⟩ | exact Ow.shl0 (by omega) (by omega) (by omega) | exact ⟨by omega, by omega⟩ | exact ⟨by omega, by omega, by omega⟩ | omega | (simp only [List.length_append, List.length_cons, List.length_nil]; omega) | (subst_vars; omega) | ((first | rw [h_q] | rw [h_q_2] | rw [h_q_3] | rw [h_q_4]); first | exact (Ow.quo_word (M := 2 ^ l_width.toNat) (by omega) (by omega) (by omega)).1 | exact (Ow.quo_word (M := 2 ^ l_width.toNat) (by omega) (by omega) (by omega)).2)), (by first | assumption | exact Ow.divw64 (by omega) (by omega) | exact Ow.mul0 ⟨by omega, by omega⟩ | exact Ow.mul1 ⟨by omega, by omega⟩ | exact Ow.shl0 (by omega) (by omega) (by omega) | exact ⟨by omega, by omega⟩ | exact ⟨by omega, by omega, by omega⟩ | omega | (simp only [List.length_append, List.length_cons, List.length_nil]; omega) | (subst_vars; omega) | ((first | rw [h_q] | rw [h_q_2] | rw [h_q_3] | rw [h_q_4]); first | exact (Ow.quo_word (M := 2 ^ l_width.toNat) (by omega) (by omega) (by omega)).1 | exact (Ow.quo_word (M := 2 ^ l_width.toNat) (by omega) (by omega) (by omega)).2)), (by first | assumption | exact Ow.divw64 (by omega) (by omega) | exact Ow.mul0 ⟨by omega, by omega⟩ | exact Ow.mul1 ⟨by omega, by omega⟩ | exact Ow.shl0 (by omega) (by omega) (by omega) | exact ⟨by omega, by omega⟩ | exact ⟨by omega, by omega, by omega⟩ | omega | (simp only [List.length_append, List.length_cons, List.length_nil]; omega) | (subst_vars; omega) | ((first | rw [h_q] | rw [h_q_2] | rw [h_q_3] | rw [h_q_4]); first | exact (Ow.quo_word (M := 2 ^ l_width.toNat) (by omega) (by omega) (by omega)).1 | exact (Ow.quo_word (M := 2 ^ l_width.toNat) (by omega) (by omega) (by omega)).2)), fun t_8 h45 Hn_11 h46 => ?_⟩
        refine ⟨_, rfl, ?_⟩
        refine ⟨_, rfl, ?_⟩
        refine ⟨_, _, rfl, rfl, (by first | assumption | exact Ow.divw64 (by omega) (by omega) | exact Ow.mul0 ⟨by omega, by omega⟩ | exact Ow.mul1 ⟨by omega, by omega⟩ | exact Ow.shl0 (by omega) (by omega) (by omega) | exact ⟨by omega, by omega⟩ | exact ⟨by omega, by omega, by omega⟩ | omega | (simp only [List.length_append, List.length_cons, List.length_nil]; omega) | (subst_vars; omega)), fun r_2 h_r_2 h0_r_2 h1_r_2 => ?_⟩
        refine ⟨rfl, ?_⟩
        refine Ow.eqeqi (by first | assumption | exact Ow.divw64 (by omega) (by omega) | exact Ow.mul0 ⟨by omega, by omega⟩ | exact Ow.mul1 ⟨by omega, by omega⟩ | exact Ow.shl0 (by omega) (by omega) (by omega) | exact ⟨by omega, by omega⟩ | exact ⟨by omega, by omega, by omega⟩ | omega | (simp only [List.length_append, List.length_cons, List.length_nil]; omega) | (subst_vars; omega) | (subst_vars; exact Ow.rest_quo (by omega) (by omega) (by omega))) ?_
        exact kont a2_8 c2_8 _ ((((((((((((((((Ow.Fm.refl.mut).mut).same h8).same h13).same h16).mutF (Ow.Fm.free (((Ow.Fm.refl.mut).mut).same h8) (h8 _ _ upd_same) h14)).mutF (Ow.Fm.free (((Ow.Fm.refl.mut).mut).same h8) (h8 _ _ upd_same) h14)).same h22).same h25).mut).mut).mut).mut).same h43).same h44).same h46) (h46 _ _ (h44 _ _ (h43 _ _ upd_same)))
theorem ok_l_start (T : Tx K mg) : FnOk P w K mg base CX0 1 T.d_l_start.f T.d_l_start.fd ["_law_script", "_law_k"] (sp_l_start K) := by
  refine T.d_l_start.F.ok sc_l_start (fun vs H Q E h => ?_) (fun cdv A outer s H vs Q E hr h => ?_)
  · obtain ⟨script, k, ns, rfl, _⟩ := h
    rfl
  · obtain ⟨script, k, ns, rfl, c0, c1, kont⟩ := h
    refine ⟨_, (pss_cons (ps_set (i := 2) sc_l_start.nd rfl (Or.inl rfl) pe_int)
        (pss_cons (ps_if (pt_cmpR (Ow.op_neI hr.units) (pv 0) (pe_lst pa_nil) (nomark _)) (pss_one (ps_set (i := 2) sc_l_start.nd rfl (Or.inl rfl) (pe_ix ix_list (pv 0) (pe_op Ow.op_modN (pv 1) (Ow.pe_nmi (pe_callB call_len_seq (by rfl) T.z_len (by decide +kernel) (pa_cons (pv 0) pa_nil)))) (fun _ _ => rfl)))) pss_nil)
        (pss_cons (ps_set (i := 3) sc_l_start.nd rfl (Or.inl rfl) pe_int)
        (pss_cons (ps_if (pt_cmpR op_ge (pv 2) (Ow.pe_lit (1000000000000000000) (pe_op op_pow pe_int pe_int)) (nomark _)) (pss_one (ps_set (i := 3) sc_l_start.nd rfl (Or.inl rfl) (pv 2))) pss_nil)
        (pss_one (ps_ret (pe_lst (pa_cons (pv 3) (pa_cons (pe_op op_add (pe_op Ow.op_modN (pe_op op_add (pv 2) (pe_op Ow.op_mulN pe_int (pv 1))) pe_int) pe_int) pa_nil))))))))), ?_⟩
    refine ⟨_, rfl, ?_⟩
    refine ⟨by show 0 ≤ sizeLine; decide, fun p h_p => ?_⟩
    refine ⟨_, _, ns, [], rfl, rfl, (Ow.seq (Ow.same_new h_p) c0), (SqL.of upd_same), ?_⟩
    refine ⟨_, rfl, ?_⟩
    refine Ow.ifnd (fun h1 => ?_) (fun h1 => ?_)
    · have e1 : 0 < ns.length := List.length_pos_iff.mpr (by assumption)
      refine ⟨_, rfl, ?_⟩
      refine ⟨_, rfl, ?_⟩
      refine ⟨_, rfl, ?_⟩
      refine ⟨_, _, rfl, .inl (Ow.seq (Ow.same_new h_p) c0), ?_⟩
      refine ⟨_, rfl, fun len h_len => ?_⟩
      rw [List.length_map] at h_len
      refine ⟨_, _, rfl, rfl, (by first | assumption | exact Ow.divw64 (by omega) (by omega) | exact Ow.mul0 ⟨by omega, by omega⟩ | exact Ow.mul1 ⟨by omega, by omega⟩ | exact Ow.shl0 (by omega) (by omega) (by omega) | exact ⟨by omega, by omega⟩ | exact ⟨by omega, by omega, by omega⟩ | omega | (simp only [List.length_append, List.length_cons, List.length_nil]; omega) | (subst_vars; omega)), fun r h_r h0_r h1_r => ?_⟩
      refine Ow.ixn (xs := ns) (i := r) (Ow.seq (Ow.same_new h_p) c0) (by first | assumption | exact Ow.divw64 (by omega) (by omega) | exact Ow.mul0 ⟨by omega, by omega⟩ | exact Ow.mul1 ⟨by omega, by omega⟩ | exact Ow.shl0 (by omega) (by omega) (by omega) | exact ⟨by omega, by omega⟩ | exact ⟨by omega, by omega, by omega⟩ | omega | (simp only [List.length_append, List.length_cons, List.length_nil]; omega) | (subst_vars; omega)) (by first | assumption | exact Ow.divw64 (by omega) (by omega) | exact Ow.mul0 ⟨by omega, by omega⟩ | exact Ow.mul1 ⟨by omega, by omega⟩ | exact Ow.shl0 (by omega) (by omega) (by omega) | exact ⟨by omega, by omega⟩ | exact ⟨by omega, by omega, by omega⟩ | omega | (simp only [List.length_append, List.length_cons, List.length_nil]; omega) | (subst_vars; omega)) (fun it h_it => ?_)
      refine ⟨_, rfl, ?_⟩
      refine ⟨_, _, rfl, rfl, ⟨by decide, by decide, by decide⟩, ?_⟩
      refine ⟨by decide, ?_⟩
      refine ⟨_, _, rfl, rfl, ?_⟩
      refine ⟨_, rfl, ?_⟩
      refine Ow.ifd (fun h2 => ?_) (fun h2 => ?_)
      · refine ⟨_, rfl, ?_⟩
        refine ⟨_, rfl, ?_⟩
        refine ⟨_, rfl, ?_⟩
        refine ⟨_, rfl, ?_⟩
        refine ⟨_, _, rfl, rfl, (by first | assumption | exact Ow.divw64 (by omega) (by omega) | exact Ow.mul0 ⟨by omega, by omega⟩ | exact Ow.mul1 ⟨by omega, by omega⟩ | exact Ow.shl0 (by omega) (by omega) (by omega) | exact ⟨by omega, by omega⟩ | exact ⟨by omega, by omega, by omega⟩ | omega | (simp only [List.length_append, List.length_cons, List.length_nil]; omega) | (subst_vars; omega)), fun m h_m => ?_⟩
        refine ⟨_, _, rfl, rfl, ?_⟩
        refine ⟨_, _, rfl, rfl, (by first | assumption | exact Ow.divw64 (by omega) (by omega) | exact Ow.mul0 ⟨by omega, by omega⟩ | exact Ow.mul1 ⟨by omega, by omega⟩ | exact Ow.shl0 (by omega) (by omega) (by omega) | exact ⟨by omega, by omega⟩ | exact ⟨by omega, by omega, by omega⟩ | omega | (simp only [List.length_append, List.length_cons, List.length_nil]; omega) | (subst_vars; omega)), fun r_2 h_r_2 h0_r_2 h1_r_2 => ?_⟩
        refine ⟨_, _, rfl, rfl, ?_⟩
        refine ⟨by show 2 ≤ sizeLine; decide, fun p_2 h_p_2 => ?_⟩
        exact kont it (r_2 + 1) _ _ ((Ow.same_new h_p).trans (Ow.same_new h_p_2)) (Same.free (Ow.same_new h_p) h_p_2) upd_same
      · refine ⟨_, rfl, ?_⟩
        refine ⟨_, rfl, ?_⟩
        refine ⟨_, rfl, ?_⟩
        refine ⟨_, _, rfl, rfl, (by first | assumption | exact Ow.divw64 (by omega) (by omega) | exact Ow.mul0 ⟨by omega, by omega⟩ | exact Ow.mul1 ⟨by omega, by omega⟩ | exact Ow.shl0 (by omega) (by omega) (by omega) | exact ⟨by omega, by omega⟩ | exact ⟨by omega, by omega, by omega⟩ | omega | (simp only [List.length_append, List.length_cons, List.length_nil]; omega) | (subst_vars; omega)), fun m_2 h_m_2 => ?_⟩
        refine ⟨_, _, rfl, rfl, ?_⟩
        refine ⟨_, _, rfl, rfl, (by first | assumption | exact Ow.divw64 (by omega) (by omega) | exact Ow.mul0 ⟨by omega, by omega⟩ | exact Ow.mul1 ⟨by omega, by omega⟩ | exact Ow.shl0 (by omega) (by omega) (by omega) | exact ⟨by omega, by omega⟩ | exact ⟨by omega, by omega, by omega⟩ | omega | (simp only [List.length_append, List.length_cons, List.length_nil]; omega) | (subst_vars; omega)), fun r_3 h_r_3 h0_r_3 h1_r_3 => ?_⟩
        refine ⟨_, _, rfl, rfl, ?_⟩
        refine ⟨by show 2 ≤ sizeLine; decide, fun p_3 h_p_3 => ?_⟩
        exact kont 0 (r_3 + 1) _ _ ((Ow.same_new h_p).trans (Ow.same_new h_p_3)) (Same.free (Ow.same_new h_p) h_p_3) upd_same
    · refine ⟨_, rfl, ?_⟩
      refine ⟨_, _, rfl, rfl, ⟨by decide, by decide, by decide⟩, ?_⟩
      refine ⟨by decide, ?_⟩
      refine ⟨_, _, rfl, rfl, ?_⟩
      refine ⟨_, rfl, ?_⟩
      refine Ow.ifd (fun h3 => ?_) (fun h3 => ?_)
      · refine ⟨_, rfl, ?_⟩
        refine ⟨_, rfl, ?_⟩
        refine ⟨_, rfl, ?_⟩
        refine ⟨_, rfl, ?_⟩
        refine ⟨_, _, rfl, rfl, (by first | assumption | exact Ow.divw64 (by omega) (by omega) | exact Ow.mul0 ⟨by omega, by omega⟩ | exact Ow.mul1 ⟨by omega, by omega⟩ | exact Ow.shl0 (by omega) (by omega) (by omega) | exact ⟨by omega, by omega⟩ | exact ⟨by omega, by omega, by omega⟩ | omega | (simp only [List.length_append, List.length_cons, List.length_nil]; omega) | (subst_vars; omega)), fun m_3 h_m_3 => ?_⟩
        refine ⟨_, _, rfl, rfl, ?_⟩
        refine ⟨_, _, rfl, rfl, (by first | assumption | exact Ow.divw64 (by omega) (by omega) | exact Ow.mul0 ⟨by omega, by omega⟩ | exact Ow.mul1 ⟨by omega, by omega⟩ | exact Ow.shl0 (by omega) (by omega) (by omega) | exact ⟨by omega, by omega⟩ | exact ⟨by omega, by omega, by omega⟩ | omega | (simp only [List.length_append, List.length_cons, List.length_nil]; omega) | (subst_vars; omega)), fun r_4 h_r_4 h0_r_4 h1_r_4 => ?_⟩
        refine ⟨_, _, rfl, rfl, ?_⟩
        refine ⟨by show 2 ≤ sizeLine; decide, fun p_4 h_p_4 => ?_⟩
        exact kont 0 (r_4 + 1) _ _ ((Ow.same_new h_p).trans (Ow.same_new h_p_4)) (Same.free (Ow.same_new h_p) h_p_4) upd_same
      · refine ⟨_, rfl, ?_⟩
        refine ⟨_, rfl, ?_⟩
        refine ⟨_, rfl, ?_⟩
        refine ⟨_, _, rfl, rfl, (by first | assumption | exact Ow.divw64 (by omega) (by omega) | exact Ow.mul0 ⟨by omega, by omega⟩ | exact Ow.mul1 ⟨by omega, by omega⟩ | exact Ow.shl0 (by omega) (by omega) (by omega) | exact ⟨by omega, by omega⟩ | exact ⟨by omega, by omega, by omega⟩ | omega | (simp only [List.length_append, List.length_cons, List.length_nil]; omega) | (subst_vars; omega)), fun m_4 h_m_4 => ?_⟩
        refine ⟨_, _, rfl, rfl, ?_⟩
        refine ⟨_, _, rfl, rfl, (by first | assumption | exact Ow.divw64 (by omega) (by omega) | exact Ow.mul0 ⟨by omega, by omega⟩ | exact Ow.mul1 ⟨by omega, by omega⟩ | exact Ow.shl0 (by omega) (by omega) (by omega) | exact ⟨by omega, by omega⟩ | exact ⟨by omega, by omega, by omega⟩ | omega | (simp only [List.length_append, List.length_cons, List.length_nil]; omega) | (subst_vars; omega)), fun r_5 h_r_5 h0_r_5 h1_r_5 => ?_⟩
        refine ⟨_, _, rfl, rfl, ?_⟩
        refine ⟨by show 2 ≤ sizeLine; decide, fun p_5 h_p_5 => ?_⟩
        exact kont 0 (r_5 + 1) _ _ ((Ow.same_new h_p).trans (Ow.same_new h_p_5)) (Same.free (Ow.same_new h_p) h_p_5) upd_same
theorem ok_law (T : Tx K mg) : FnOk P w K mg base CX0 7 T.d_law.f T.d_law.fd ["_law_script"] (sp_law K) := by
  refine T.d_law.F.ok sc_law (fun vs H Q E h => ?_) (fun cdv A outer s H vs Q E hr h => ?_)
  · obtain ⟨script, ns, rfl, _⟩ := h
    rfl
  · obtain ⟨script, ns, rfl, c0, c1, kont⟩ := h
    refine ⟨_, (pss_cons (ps_for PassesOwn.never rfl (pi_range1 (by rfl) T.z_range (pa_cons (Ow.pe_nmi (pe_callB (call_max2 rfl) (by rfl) T.z_max (by decide +kernel) (pa_cons pe_int (pa_cons (Ow.pe_nmi (pe_callB (call_min2 rfl) (by rfl) T.z_min (by decide +kernel) (pa_cons (Ow.pe_nmi (pe_callB call_len_seq (by rfl) T.z_len (by decide +kernel) (pa_cons (pv 0) pa_nil))) (pa_cons pe_int pa_nil)))) pa_nil)))) pa_nil)) (pg_name (i := 1) sc_law.nd rfl (Or.inl rfl)) (pss_one (ps_if (pt_not (pt_val (pe_call (Ow.ok_l_case T) (hr.mono (by decide : 6 ≤ 6)) (by rfl) T.d_l_case.m T.d_l_case.F.kp T.d_l_case.b .nil pass0 (pa_cons (pe_call (Ow.ok_l_start T) (hr.mono (by decide : 1 ≤ 6)) (by rfl) T.d_l_start.m T.d_l_start.F.kp T.d_l_start.b .nil pass0 (pa_cons (pv 0) (pa_cons (pv 1) pa_nil))) pa_nil)))) (pss_one (ps_ret pe_bl)) pss_nil)))
        (pss_one (ps_ret pe_bl))), ?_⟩
    refine ⟨_, rfl, ?_⟩
    refine ⟨_, _, rfl, .inl c0, ?_⟩
    refine ⟨_, rfl, fun len h_len => ?_⟩
    rw [List.length_map] at h_len
    refine ⟨_, _, rfl, ?_⟩
    refine ⟨_, rfl, fun m h_m => ?_⟩
    have hm_m := Ow.min_ite h_m
    refine ⟨_, _, rfl, ?_⟩
    refine ⟨_, rfl, fun m_2 h_m_2 => ?_⟩
    have hm_m_2 := Ow.max_ite h_m_2
    refine ⟨_, rfl, (by first | assumption | exact Ow.divw64 (by omega) (by omega) | exact Ow.mul0 ⟨by omega, by omega⟩ | exact Ow.mul1 ⟨by omega, by omega⟩ | exact Ow.shl0 (by omega) (by omega) (by omega) | exact ⟨by omega, by omega⟩ | exact ⟨by omega, by omega, by omega⟩ | omega | (simp only [List.length_append, List.length_cons, List.length_nil]; omega) | (subst_vars; omega)), (by first | assumption | exact Ow.divw64 (by omega) (by omega) | exact Ow.mul0 ⟨by omega, by omega⟩ | exact Ow.mul1 ⟨by omega, by omega⟩ | exact Ow.shl0 (by omega) (by omega) (by omega) | exact ⟨by omega, by omega⟩ | exact ⟨by omega, by omega, by omega⟩ | omega | (simp only [List.length_append, List.length_cons, List.length_nil]; omega) | (subst_vars; omega)), ?_⟩
    refine for_range (lo := 0) (fun i σ2 H2 => ∃ (v_1 : Option V), σ2 = [some (.ref script), v_1] ∧ Same _ H2) ⟨_, rfl, Same.refl _⟩ ?_ ?_
    · rintro i _ Hn h2 ⟨_, rfl, h1⟩
      refine Ow.gturn (fun l_k h_l_k => ?_)
      refine ⟨_, rfl, ?_⟩
      refine ⟨_, rfl, ?_⟩
      refine ⟨_, _, _, rfl, (Ow.seq h1 c0), (by first | assumption | exact Ow.divw64 (by omega) (by omega) | exact Ow.mul0 ⟨by omega, by omega⟩ | exact Ow.mul1 ⟨by omega, by omega⟩ | exact Ow.shl0 (by omega) (by omega) (by omega) | exact ⟨by omega, by omega⟩ | exact ⟨by omega, by omega, by omega⟩ | omega | (simp only [List.length_append, List.length_cons, List.length_nil]; omega) | (subst_vars; omega)), fun a c p Hn_2 h3 h4 h5 => ?_⟩
      refine ⟨_, _, _, rfl, h5, fun a2 c2 Hn_3 h6 h7 => ?_⟩
      refine ⟨_, rfl, ?_⟩
      refine iteF ?_
      exact ⟨_, rfl, (Ow.same_frame (h1.trans h3) h6 (Same.free h1 h4))⟩
    · rintro _ Hn_4 ⟨_, rfl, h8⟩
      exact kont _ h8
end
def tx_mk {K : PySem.W.Frag} {h : Heap} {mg : Str → Option Value} (X : K.In h) (G : h.Ns mainGlobals mg) {f_is_whole : Addr} {od_is_whole an_is_whole : Option Addr} {oc_is_whole kV_is_whole dc_is_whole pm_is_whole cd_is_whole ct_is_whole : Value} {sl_is_whole : Array (Option Value)} {f_need_width : Addr} {od_need_width an_need_width : Option Addr} {oc_need_width kV_need_width dc_need_width pm_need_width cd_need_width ct_need_width : Value} {sl_need_width : Array (Option Value)} {f_is_between : Addr} {od_is_between an_is_between : Option Addr} {oc_is_between kV_is_between dc_is_between pm_is_between cd_is_between ct_is_between : Value} {sl_is_between : Array (Option Value)} {f_need_divisor : Addr} {od_need_divisor an_need_divisor : Option Addr} {oc_need_divisor kV_need_divisor dc_need_divisor pm_need_divisor cd_need_divisor ct_need_divisor : Value} {sl_need_divisor : Array (Option Value)} {f_cut : Addr} {od_cut an_cut : Option Addr} {oc_cut kV_cut dc_cut pm_cut cd_cut ct_cut : Value} {sl_cut : Array (Option Value)} {f_low_product : Addr} {od_low_product an_low_product : Option Addr} {oc_low_product kV_low_product dc_low_product pm_low_product cd_low_product ct_low_product : Value} {sl_low_product : Array (Option Value)} {f_gap_of : Addr} {od_gap_of an_gap_of : Option Addr} {oc_gap_of kV_gap_of dc_gap_of pm_gap_of cd_gap_of ct_gap_of : Value} {sl_gap_of : Array (Option Value)} {f_inverse_steps : Addr} {od_inverse_steps an_inverse_steps : Option Addr} {oc_inverse_steps kV_inverse_steps dc_inverse_steps pm_inverse_steps cd_inverse_steps ct_inverse_steps : Value} {sl_inverse_steps : Array (Option Value)} {f_inverse : Addr} {od_inverse an_inverse : Option Addr} {oc_inverse kV_inverse dc_inverse pm_inverse cd_inverse ct_inverse : Value} {sl_inverse : Array (Option Value)} {f_l_draw : Addr} {od_l_draw an_l_draw : Option Addr} {oc_l_draw kV_l_draw dc_l_draw pm_l_draw cd_l_draw ct_l_draw : Value} {sl_l_draw : Array (Option Value)} {f_l_divisor : Addr} {od_l_divisor an_l_divisor : Option Addr} {oc_l_divisor kV_l_divisor dc_l_divisor pm_l_divisor cd_l_divisor ct_l_divisor : Value} {sl_l_divisor : Array (Option Value)} {f_l_whole : Addr} {od_l_whole an_l_whole : Option Addr} {oc_l_whole kV_l_whole dc_l_whole pm_l_whole cd_l_whole ct_l_whole : Value} {sl_l_whole : Array (Option Value)} {f_l_steps_right : Addr} {od_l_steps_right an_l_steps_right : Option Addr} {oc_l_steps_right kV_l_steps_right dc_l_steps_right pm_l_steps_right cd_l_steps_right ct_l_steps_right : Value} {sl_l_steps_right : Array (Option Value)} {f_rest_of : Addr} {od_rest_of an_rest_of : Option Addr} {oc_rest_of kV_rest_of dc_rest_of pm_rest_of cd_rest_of ct_rest_of : Value} {sl_rest_of : Array (Option Value)} {f_l_rest_right : Addr} {od_l_rest_right an_l_rest_right : Option Addr} {oc_l_rest_right kV_l_rest_right dc_l_rest_right pm_l_rest_right cd_l_rest_right ct_l_rest_right : Value} {sl_l_rest_right : Array (Option Value)} {f_l_case : Addr} {od_l_case an_l_case : Option Addr} {oc_l_case kV_l_case dc_l_case pm_l_case cd_l_case ct_l_case : Value} {sl_l_case : Array (Option Value)} {f_l_start : Addr} {od_l_start an_l_start : Option Addr} {oc_l_start kV_l_start dc_l_start pm_l_start cd_l_start ct_l_start : Value} {sl_l_start : Array (Option Value)} {f_law : Addr} {od_law an_law : Option Addr} {oc_law kV_law dc_law pm_law cd_law ct_law : Value} {sl_law : Array (Option Value)} {tk_LEAST_WIDTH : Tok} {tk_GREATEST_WIDTH : Tok}
    (a_is_whole : PySem.W.nsIn K mainGlobals "is_whole" = some (some (.ref f_is_whole)))
    (l_is_whole : K.lookup f_is_whole = some ⟨oc_is_whole, od_is_whole, .func (PySem.W.fnOf "is_whole" "is_whole" (defArgs s_is_whole) (defBody s_is_whole) (defScope s_is_whole) .none kV_is_whole dc_is_whole pm_is_whole an_is_whole cd_is_whole ct_is_whole), sl_is_whole⟩)
    (c_is_whole : PySem.W.codeIn K cd_is_whole "is_whole" = true) (k_is_whole : PySem.W.keepIn K (.ref f_is_whole) = true)
    (a_need_width : PySem.W.nsIn K mainGlobals "need_width" = some (some (.ref f_need_width)))
    (l_need_width : K.lookup f_need_width = some ⟨oc_need_width, od_need_width, .func (PySem.W.fnOf "need_width" "need_width" (defArgs s_need_width) (defBody s_need_width) (defScope s_need_width) .none kV_need_width dc_need_width pm_need_width an_need_width cd_need_width ct_need_width), sl_need_width⟩)
    (c_need_width : PySem.W.codeIn K cd_need_width "need_width" = true) (k_need_width : PySem.W.keepIn K (.ref f_need_width) = true)
    (a_is_between : PySem.W.nsIn K mainGlobals "is_between" = some (some (.ref f_is_between)))
    (l_is_between : K.lookup f_is_between = some ⟨oc_is_between, od_is_between, .func (PySem.W.fnOf "is_between" "is_between" (defArgs s_is_between) (defBody s_is_between) (defScope s_is_between) .none kV_is_between dc_is_between pm_is_between an_is_between cd_is_between ct_is_between), sl_is_between⟩)
    (c_is_between : PySem.W.codeIn K cd_is_between "is_between" = true) (k_is_between : PySem.W.keepIn K (.ref f_is_between) = true)
    (a_need_divisor : PySem.W.nsIn K mainGlobals "need_divisor" = some (some (.ref f_need_divisor)))
    (l_need_divisor : K.lookup f_need_divisor = some ⟨oc_need_divisor, od_need_divisor, .func (PySem.W.fnOf "need_divisor" "need_divisor" (defArgs s_need_divisor) (defBody s_need_divisor) (defScope s_need_divisor) .none kV_need_divisor dc_need_divisor pm_need_divisor an_need_divisor cd_need_divisor ct_need_divisor), sl_need_divisor⟩)
    (c_need_divisor : PySem.W.codeIn K cd_need_divisor "need_divisor" = true) (k_need_divisor : PySem.W.keepIn K (.ref f_need_divisor) = true)
    (a_cut : PySem.W.nsIn K mainGlobals "cut" = some (some (.ref f_cut)))
    (l_cut : K.lookup f_cut = some ⟨oc_cut, od_cut, .func (PySem.W.fnOf "cut" "cut" (defArgs s_cut) (defBody s_cut) (defScope s_cut) .none kV_cut dc_cut pm_cut an_cut cd_cut ct_cut), sl_cut⟩)
    (c_cut : PySem.W.codeIn K cd_cut "cut" = true) (k_cut : PySem.W.keepIn K (.ref f_cut) = true)
    (a_low_product : PySem.W.nsIn K mainGlobals "low_product" = some (some (.ref f_low_product)))
    (l_low_product : K.lookup f_low_product = some ⟨oc_low_product, od_low_product, .func (PySem.W.fnOf "low_product" "low_product" (defArgs s_low_product) (defBody s_low_product) (defScope s_low_product) .none kV_low_product dc_low_product pm_low_product an_low_product cd_low_product ct_low_product), sl_low_product⟩)
    (c_low_product : PySem.W.codeIn K cd_low_product "low_product" = true) (k_low_product : PySem.W.keepIn K (.ref f_low_product) = true)
    (a_gap_of : PySem.W.nsIn K mainGlobals "gap_of" = some (some (.ref f_gap_of)))
    (l_gap_of : K.lookup f_gap_of = some ⟨oc_gap_of, od_gap_of, .func (PySem.W.fnOf "gap_of" "gap_of" (defArgs s_gap_of) (defBody s_gap_of) (defScope s_gap_of) .none kV_gap_of dc_gap_of pm_gap_of an_gap_of cd_gap_of ct_gap_of), sl_gap_of⟩)
    (c_gap_of : PySem.W.codeIn K cd_gap_of "gap_of" = true) (k_gap_of : PySem.W.keepIn K (.ref f_gap_of) = true)
    (a_inverse_steps : PySem.W.nsIn K mainGlobals "inverse_steps" = some (some (.ref f_inverse_steps)))
    (l_inverse_steps : K.lookup f_inverse_steps = some ⟨oc_inverse_steps, od_inverse_steps, .func (PySem.W.fnOf "inverse_steps" "inverse_steps" (defArgs s_inverse_steps) (defBody s_inverse_steps) (defScope s_inverse_steps) .none kV_inverse_steps dc_inverse_steps pm_inverse_steps an_inverse_steps cd_inverse_steps ct_inverse_steps), sl_inverse_steps⟩)
    (c_inverse_steps : PySem.W.codeIn K cd_inverse_steps "inverse_steps" = true) (k_inverse_steps : PySem.W.keepIn K (.ref f_inverse_steps) = true)
    (a_inverse : PySem.W.nsIn K mainGlobals "inverse" = some (some (.ref f_inverse)))
    (l_inverse : K.lookup f_inverse = some ⟨oc_inverse, od_inverse, .func (PySem.W.fnOf "inverse" "inverse" (defArgs s_inverse) (defBody s_inverse) (defScope s_inverse) .none kV_inverse dc_inverse pm_inverse an_inverse cd_inverse ct_inverse), sl_inverse⟩)
    (c_inverse : PySem.W.codeIn K cd_inverse "inverse" = true) (k_inverse : PySem.W.keepIn K (.ref f_inverse) = true)
    (a_l_draw : PySem.W.nsIn K mainGlobals "_law_draw" = some (some (.ref f_l_draw)))
    (l_l_draw : K.lookup f_l_draw = some ⟨oc_l_draw, od_l_draw, .func (PySem.W.fnOf "_law_draw" "_law_draw" (defArgs s_l_draw) (defBody s_l_draw) (defScope s_l_draw) .none kV_l_draw dc_l_draw pm_l_draw an_l_draw cd_l_draw ct_l_draw), sl_l_draw⟩)
    (c_l_draw : PySem.W.codeIn K cd_l_draw "_law_draw" = true) (k_l_draw : PySem.W.keepIn K (.ref f_l_draw) = true)
    (a_l_divisor : PySem.W.nsIn K mainGlobals "_law_divisor" = some (some (.ref f_l_divisor)))
    (l_l_divisor : K.lookup f_l_divisor = some ⟨oc_l_divisor, od_l_divisor, .func (PySem.W.fnOf "_law_divisor" "_law_divisor" (defArgs s_l_divisor) (defBody s_l_divisor) (defScope s_l_divisor) .none kV_l_divisor dc_l_divisor pm_l_divisor an_l_divisor cd_l_divisor ct_l_divisor), sl_l_divisor⟩)
    (c_l_divisor : PySem.W.codeIn K cd_l_divisor "_law_divisor" = true) (k_l_divisor : PySem.W.keepIn K (.ref f_l_divisor) = true)
    (a_l_whole : PySem.W.nsIn K mainGlobals "_law_whole" = some (some (.ref f_l_whole)))
    (l_l_whole : K.lookup f_l_whole = some ⟨oc_l_whole, od_l_whole, .func (PySem.W.fnOf "_law_whole" "_law_whole" (defArgs s_l_whole) (defBody s_l_whole) (defScope s_l_whole) .none kV_l_whole dc_l_whole pm_l_whole an_l_whole cd_l_whole ct_l_whole), sl_l_whole⟩)
    (c_l_whole : PySem.W.codeIn K cd_l_whole "_law_whole" = true) (k_l_whole : PySem.W.keepIn K (.ref f_l_whole) = true)
    (a_l_steps_right : PySem.W.nsIn K mainGlobals "_law_steps_right" = some (some (.ref f_l_steps_right)))
    (l_l_steps_right : K.lookup f_l_steps_right = some ⟨oc_l_steps_right, od_l_steps_right, .func (PySem.W.fnOf "_law_steps_right" "_law_steps_right" (defArgs s_l_steps_right) (defBody s_l_steps_right) (defScope s_l_steps_right) .none kV_l_steps_right dc_l_steps_right pm_l_steps_right an_l_steps_right cd_l_steps_right ct_l_steps_right), sl_l_steps_right⟩)
    (c_l_steps_right : PySem.W.codeIn K cd_l_steps_right "_law_steps_right" = true) (k_l_steps_right : PySem.W.keepIn K (.ref f_l_steps_right) = true)
    (a_rest_of : PySem.W.nsIn K mainGlobals "rest_of" = some (some (.ref f_rest_of)))
    (l_rest_of : K.lookup f_rest_of = some ⟨oc_rest_of, od_rest_of, .func (PySem.W.fnOf "rest_of" "rest_of" (defArgs s_rest_of) (defBody s_rest_of) (defScope s_rest_of) .none kV_rest_of dc_rest_of pm_rest_of an_rest_of cd_rest_of ct_rest_of), sl_rest_of⟩)
    (c_rest_of : PySem.W.codeIn K cd_rest_of "rest_of" = true) (k_rest_of : PySem.W.keepIn K (.ref f_rest_of) = true)
    (a_l_rest_right : PySem.W.nsIn K mainGlobals "_law_rest_right" = some (some (.ref f_l_rest_right)))
    (l_l_rest_right : K.lookup f_l_rest_right = some ⟨oc_l_rest_right, od_l_rest_right, .func (PySem.W.fnOf "_law_rest_right" "_law_rest_right" (defArgs s_l_rest_right) (defBody s_l_rest_right) (defScope s_l_rest_right) .none kV_l_rest_right dc_l_rest_right pm_l_rest_right an_l_rest_right cd_l_rest_right ct_l_rest_right), sl_l_rest_right⟩)
    (c_l_rest_right : PySem.W.codeIn K cd_l_rest_right "_law_rest_right" = true) (k_l_rest_right : PySem.W.keepIn K (.ref f_l_rest_right) = true)
    (a_l_case : PySem.W.nsIn K mainGlobals "_law_case" = some (some (.ref f_l_case)))
    (l_l_case : K.lookup f_l_case = some ⟨oc_l_case, od_l_case, .func (PySem.W.fnOf "_law_case" "_law_case" (defArgs s_l_case) (defBody s_l_case) (defScope s_l_case) .none kV_l_case dc_l_case pm_l_case an_l_case cd_l_case ct_l_case), sl_l_case⟩)
    (c_l_case : PySem.W.codeIn K cd_l_case "_law_case" = true) (k_l_case : PySem.W.keepIn K (.ref f_l_case) = true)
    (a_l_start : PySem.W.nsIn K mainGlobals "_law_start" = some (some (.ref f_l_start)))
    (l_l_start : K.lookup f_l_start = some ⟨oc_l_start, od_l_start, .func (PySem.W.fnOf "_law_start" "_law_start" (defArgs s_l_start) (defBody s_l_start) (defScope s_l_start) .none kV_l_start dc_l_start pm_l_start an_l_start cd_l_start ct_l_start), sl_l_start⟩)
    (c_l_start : PySem.W.codeIn K cd_l_start "_law_start" = true) (k_l_start : PySem.W.keepIn K (.ref f_l_start) = true)
    (a_law : PySem.W.nsIn K mainGlobals "law" = some (some (.ref f_law)))
    (l_law : K.lookup f_law = some ⟨oc_law, od_law, .func (PySem.W.fnOf "law" "law" (defArgs s_law) (defBody s_law) (defScope s_law) .none kV_law dc_law pm_law an_law cd_law ct_law), sl_law⟩)
    (c_law : PySem.W.codeIn K cd_law "law" = true) (k_law : PySem.W.keepIn K (.ref f_law) = true)
    (a_LEAST_WIDTH : PySem.W.nsIn K mainGlobals "LEAST_WIDTH" = some (some (.int 4 tk_LEAST_WIDTH)))
    (a_GREATEST_WIDTH : PySem.W.nsIn K mainGlobals "GREATEST_WIDTH" = some (some (.int 32 tk_GREATEST_WIDTH)))
    (z_isinstance : PySem.W.nsIn K mainGlobals "isinstance" = some none)
    (z_bool : PySem.W.nsIn K mainGlobals "bool" = some none)
    (z_int : PySem.W.nsIn K mainGlobals "int" = some none)
    (z_len : PySem.W.nsIn K mainGlobals "len" = some none)
    (z_list : PySem.W.nsIn K mainGlobals "list" = some none)
    (z_range : PySem.W.nsIn K mainGlobals "range" = some none)
    (z_min : PySem.W.nsIn K mainGlobals "min" = some none)
    (z_max : PySem.W.nsIn K mainGlobals "max" = some none) : Tx K mg where
  d_is_whole := ⟨f_is_whole, _, fun_mk (st := s_is_whole) l_is_whole c_is_whole k_is_whole, (fun_mk (st := s_is_whole) l_is_whole c_is_whole k_is_whole).binds fun _ _ _ _ _ _ us hl => match us, hl with | [_], _ => rfl, PySem.W.mg_of X G a_is_whole⟩
  d_need_width := ⟨f_need_width, _, fun_mk (st := s_need_width) l_need_width c_need_width k_need_width, (fun_mk (st := s_need_width) l_need_width c_need_width k_need_width).binds fun _ _ _ _ _ _ us hl => match us, hl with | [_], _ => rfl, PySem.W.mg_of X G a_need_width⟩
  d_is_between := ⟨f_is_between, _, fun_mk (st := s_is_between) l_is_between c_is_between k_is_between, (fun_mk (st := s_is_between) l_is_between c_is_between k_is_between).binds fun _ _ _ _ _ _ us hl => match us, hl with | [_, _, _], _ => rfl, PySem.W.mg_of X G a_is_between⟩
  d_need_divisor := ⟨f_need_divisor, _, fun_mk (st := s_need_divisor) l_need_divisor c_need_divisor k_need_divisor, (fun_mk (st := s_need_divisor) l_need_divisor c_need_divisor k_need_divisor).binds fun _ _ _ _ _ _ us hl => match us, hl with | [_, _], _ => rfl, PySem.W.mg_of X G a_need_divisor⟩
  d_cut := ⟨f_cut, _, fun_mk (st := s_cut) l_cut c_cut k_cut, (fun_mk (st := s_cut) l_cut c_cut k_cut).binds fun _ _ _ _ _ _ us hl => match us, hl with | [_, _], _ => rfl, PySem.W.mg_of X G a_cut⟩
  d_low_product := ⟨f_low_product, _, fun_mk (st := s_low_product) l_low_product c_low_product k_low_product, (fun_mk (st := s_low_product) l_low_product c_low_product k_low_product).binds fun _ _ _ _ _ _ us hl => match us, hl with | [_, _, _], _ => rfl, PySem.W.mg_of X G a_low_product⟩
  d_gap_of := ⟨f_gap_of, _, fun_mk (st := s_gap_of) l_gap_of c_gap_of k_gap_of, (fun_mk (st := s_gap_of) l_gap_of c_gap_of k_gap_of).binds fun _ _ _ _ _ _ us hl => match us, hl with | [_, _, _], _ => rfl, PySem.W.mg_of X G a_gap_of⟩
  d_inverse_steps := ⟨f_inverse_steps, _, fun_mk (st := s_inverse_steps) l_inverse_steps c_inverse_steps k_inverse_steps, (fun_mk (st := s_inverse_steps) l_inverse_steps c_inverse_steps k_inverse_steps).binds fun _ _ _ _ _ _ us hl => match us, hl with | [_, _], _ => rfl, PySem.W.mg_of X G a_inverse_steps⟩
  d_inverse := ⟨f_inverse, _, fun_mk (st := s_inverse) l_inverse c_inverse k_inverse, (fun_mk (st := s_inverse) l_inverse c_inverse k_inverse).binds fun _ _ _ _ _ _ us hl => match us, hl with | [_, _], _ => rfl, PySem.W.mg_of X G a_inverse⟩
  d_l_draw := ⟨f_l_draw, _, fun_mk (st := s_l_draw) l_l_draw c_l_draw k_l_draw, (fun_mk (st := s_l_draw) l_l_draw c_l_draw k_l_draw).binds fun _ _ _ _ _ _ us hl => match us, hl with | [_, _], _ => rfl, PySem.W.mg_of X G a_l_draw⟩
  d_l_divisor := ⟨f_l_divisor, _, fun_mk (st := s_l_divisor) l_l_divisor c_l_divisor k_l_divisor, (fun_mk (st := s_l_divisor) l_l_divisor c_l_divisor k_l_divisor).binds fun _ _ _ _ _ _ us hl => match us, hl with | [_, _], _ => rfl, PySem.W.mg_of X G a_l_divisor⟩
  d_l_whole := ⟨f_l_whole, _, fun_mk (st := s_l_whole) l_l_whole c_l_whole k_l_whole, (fun_mk (st := s_l_whole) l_l_whole c_l_whole k_l_whole).binds fun _ _ _ _ _ _ us hl => match us, hl with | [_], _ => rfl, PySem.W.mg_of X G a_l_whole⟩
  d_l_steps_right := ⟨f_l_steps_right, _, fun_mk (st := s_l_steps_right) l_l_steps_right c_l_steps_right k_l_steps_right, (fun_mk (st := s_l_steps_right) l_l_steps_right c_l_steps_right k_l_steps_right).binds fun _ _ _ _ _ _ us hl => match us, hl with | [_, _, _], _ => rfl, PySem.W.mg_of X G a_l_steps_right⟩
  d_rest_of := ⟨f_rest_of, _, fun_mk (st := s_rest_of) l_rest_of c_rest_of k_rest_of, (fun_mk (st := s_rest_of) l_rest_of c_rest_of k_rest_of).binds fun _ _ _ _ _ _ us hl => match us, hl with | [_, _, _, _], _ => rfl, PySem.W.mg_of X G a_rest_of⟩
  d_l_rest_right := ⟨f_l_rest_right, _, fun_mk (st := s_l_rest_right) l_l_rest_right c_l_rest_right k_l_rest_right, (fun_mk (st := s_l_rest_right) l_l_rest_right c_l_rest_right k_l_rest_right).binds fun _ _ _ _ _ _ us hl => match us, hl with | [_, _, _, _], _ => rfl, PySem.W.mg_of X G a_l_rest_right⟩
  d_l_case := ⟨f_l_case, _, fun_mk (st := s_l_case) l_l_case c_l_case k_l_case, (fun_mk (st := s_l_case) l_l_case c_l_case k_l_case).binds fun _ _ _ _ _ _ us hl => match us, hl with | [_], _ => rfl, PySem.W.mg_of X G a_l_case⟩
  d_l_start := ⟨f_l_start, _, fun_mk (st := s_l_start) l_l_start c_l_start k_l_start, (fun_mk (st := s_l_start) l_l_start c_l_start k_l_start).binds fun _ _ _ _ _ _ us hl => match us, hl with | [_, _], _ => rfl, PySem.W.mg_of X G a_l_start⟩
  d_law := ⟨f_law, _, fun_mk (st := s_law) l_law c_law k_law, (fun_mk (st := s_law) l_law c_law k_law).binds fun _ _ _ _ _ _ us hl => match us, hl with | [_], _ => rfl, PySem.W.mg_of X G a_law⟩
  g_LEAST_WIDTH := ⟨_, PySem.W.mg_of X G a_LEAST_WIDTH⟩
  g_GREATEST_WIDTH := ⟨_, PySem.W.mg_of X G a_GREATEST_WIDTH⟩
  z_isinstance := PySem.W.mg_none_of X G z_isinstance
  z_bool := PySem.W.mg_none_of X G z_bool
  z_int := PySem.W.mg_none_of X G z_int
  z_len := PySem.W.mg_none_of X G z_len
  z_list := PySem.W.mg_none_of X G z_list
  z_range := PySem.W.mg_none_of X G z_range
  z_min := PySem.W.mg_none_of X G z_min
  z_max := PySem.W.mg_none_of X G z_max
theorem all_mk {l : PySem.W.OpenLaw} {w : World} {K : PySem.W.Frag} {h : Heap} {mg : Str → Option Value} {fa : Addr} (hfa : mg "law" = some (.ref fa)) (T : Tx K mg) :
    ∃ fd : FuncData, (∀ (s : Shared) (v : Value), BindsTo s fd ⟨[v], []⟩ [("_law_script", v)]) ∧ ∀ base : Heap, K.In base → base.Ns mainGlobals mg → FnOk l.prog w K mg base CX0 7 fa fd ["_law_script"] (sp_law K) := by
  have e := hfa.symm.trans T.d_law.m
  cases e
  refine ⟨T.d_law.fd, fun s v => ?_, fun base _ _ => ok_law T⟩
  obtain ⟨oc, od, kV, doc, pm, an, cdv, ct, osl, e, _, _⟩ := T.d_law.F.ex
  rw [e]
  exact .of_eq rfl
theorem walk {l : PySem.W.OpenLaw} {q : Program} {loose : List Str} {XP : (Str → Option Value) → Heap → Prop} {YP : World → Heap → Prop} {d : DefRec} {K : Params → PySem.W.Frag} (hn : l.most = some 63) (hdf : d.params.defaults = [])
    (hY : ∀ (w : World) (h : Heap), YP w h → (K w.params).In h)
    (F : ∀ (w : World) (mg : Str → Option Value) (fa : Addr) (h : Heap), (K w.params).In h → h.Ns mainGlobals mg → mg d.name = some (.ref fa) →
      ∃ fd : FuncData, (∀ (s : Shared) (u : Value), BindsTo s fd ⟨[u], []⟩ [("_law_script", u)]) ∧ ∀ base : Heap, (K w.params).In base → base.Ns mainGlobals mg → FnOk l.prog w (K w.params) mg base CX0 7 fa fd ["_law_script"] (sp_law (K w.params))) :
    PySem.W.WalkO q loose XP YP l.row.toRowW d [] (fun f vs => PySem.call f vs) :=
  L2.walk_of (n := 63) (k := 7) (x := "_law_script") (CX := fun _ => CX0) (sp := fun w => sp_law (K w.params)) hn (by decide) hdf ⟨rfl, by decide, by decide⟩ hY F (fun _ _ a ns hl _ hS => ⟨a, ns, rfl, hS, hl, fun _ _ => rfl⟩) fun _ _ _ _ _ z => z
end Ow
open PySem PySem.W PyProof.Rows
set_option maxRecDepth 100000 in
set_option maxHeartbeats 0 in
theorem PySem.Challenge.cw_overwise_k38_inverses_and_rests_holds : PySem.Challenge.rw_overwise_k38_inverses_and_rests.Holds := by
  w_on; o_law; k_head; (case hw => w_witness2)
  k_fill
  refine _root_.Ow.walk (l := PySem.Challenge.rw_overwise_k38_inverses_and_rests) rfl rfl (fun w h Y => PySem.W.kIn_of Y) ?F
  case F =>
    intro w mg fa h KX G hmg
    refine' _root_.Ow.all_mk (h := h) hmg (_root_.Ow.tx_mk KX G ?a_is_whole ?l_is_whole ?c_is_whole ?k_is_whole ?a_need_width ?l_need_width ?c_need_width ?k_need_width ?a_is_between ?l_is_between ?c_is_between ?k_is_between ?a_need_divisor ?l_need_divisor ?c_need_divisor ?k_need_divisor ?a_cut ?l_cut ?c_cut ?k_cut ?a_low_product ?l_low_product ?c_low_product ?k_low_product ?a_gap_of ?l_gap_of ?c_gap_of ?k_gap_of ?a_inverse_steps ?l_inverse_steps ?c_inverse_steps ?k_inverse_steps ?a_inverse ?l_inverse ?c_inverse ?k_inverse ?a_l_draw ?l_l_draw ?c_l_draw ?k_l_draw ?a_l_divisor ?l_l_divisor ?c_l_divisor ?k_l_divisor ?a_l_whole ?l_l_whole ?c_l_whole ?k_l_whole ?a_l_steps_right ?l_l_steps_right ?c_l_steps_right ?k_l_steps_right ?a_rest_of ?l_rest_of ?c_rest_of ?k_rest_of ?a_l_rest_right ?l_l_rest_right ?c_l_rest_right ?k_l_rest_right ?a_l_case ?l_l_case ?c_l_case ?k_l_case ?a_l_start ?l_l_start ?c_l_start ?k_l_start ?a_law ?l_law ?c_law ?k_law ?a_LEAST_WIDTH ?a_GREATEST_WIDTH ?z_isinstance ?z_bool ?z_int ?z_len ?z_list ?z_range ?z_min ?z_max)
    (case a_is_whole => k_is)
    (case l_is_whole => k_is)
    (case c_is_whole => k_is)
    (case k_is_whole => k_is)
    (case a_need_width => k_is)
    (case l_need_width => k_is)
    (case c_need_width => k_is)
    (case k_need_width => k_is)
    (case a_is_between => k_is)
    (case l_is_between => k_is)
    (case c_is_between => k_is)
    (case k_is_between => k_is)
    (case a_need_divisor => k_is)
    (case l_need_divisor => k_is)
    (case c_need_divisor => k_is)
    (case k_need_divisor => k_is)
    (case a_cut => k_is)
    (case l_cut => k_is)
    (case c_cut => k_is)
    (case k_cut => k_is)
    (case a_low_product => k_is)
    (case l_low_product => k_is)
    (case c_low_product => k_is)
    (case k_low_product => k_is)
    (case a_gap_of => k_is)
    (case l_gap_of => k_is)
    (case c_gap_of => k_is)
    (case k_gap_of => k_is)
    (case a_inverse_steps => k_is)
    (case l_inverse_steps => k_is)
    (case c_inverse_steps => k_is)
    (case k_inverse_steps => k_is)
    (case a_inverse => k_is)
    (case l_inverse => k_is)
    (case c_inverse => k_is)
    (case k_inverse => k_is)
    (case a_l_draw => k_is)
    (case l_l_draw => k_is)
    (case c_l_draw => k_is)
    (case k_l_draw => k_is)
    (case a_l_divisor => k_is)
    (case l_l_divisor => k_is)
    (case c_l_divisor => k_is)
    (case k_l_divisor => k_is)
    (case a_l_whole => k_is)
    (case l_l_whole => k_is)
    (case c_l_whole => k_is)
    (case k_l_whole => k_is)
    (case a_l_steps_right => k_is)
    (case l_l_steps_right => k_is)
    (case c_l_steps_right => k_is)
    (case k_l_steps_right => k_is)
    (case a_rest_of => k_is)
    (case l_rest_of => k_is)
    (case c_rest_of => k_is)
    (case k_rest_of => k_is)
    (case a_l_rest_right => k_is)
    (case l_l_rest_right => k_is)
    (case c_l_rest_right => k_is)
    (case k_l_rest_right => k_is)
    (case a_l_case => k_is)
    (case l_l_case => k_is)
    (case c_l_case => k_is)
    (case k_l_case => k_is)
    (case a_l_start => k_is)
    (case l_l_start => k_is)
    (case c_l_start => k_is)
    (case k_l_start => k_is)
    (case a_law => k_is)
    (case l_law => k_is)
    (case c_law => k_is)
    (case k_law => k_is)
    (case a_LEAST_WIDTH => k_is)
    (case a_GREATEST_WIDTH => k_is)
    (case z_isinstance => k_is)
    (case z_bool => k_is)
    (case z_int => k_is)
    (case z_len => k_is)
    (case z_list => k_is)
    (case z_range => k_is)
    (case z_min => k_is)
    (case z_max => k_is)
