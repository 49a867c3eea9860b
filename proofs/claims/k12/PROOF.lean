import PyProof.Rows.All
import Wide.All
import OpenK.AllK
import Wide.FinOn
import HandS.ForMost
import HandS.Wide
import HandS.WideBits
import HandS.IsInst
import HandS.Style
import HandS.ForExc
import HandS.New0
import HandS.ExcInit
import HandS.ExcIs
import HandS.ClsMeth
import PySem.Challenge.RW_overwise_k12_sums_crosswise
set_option Elab.async false
set_option linter.all false
set_option maxRecDepth 100000
set_option maxHeartbeats 4000000
/-! ### own rules and steps -/
namespace Ow
open PySem L2
section
variable {Q : VK} {H H' : Hp} {A B : Prop}
theorem gi {e : Int} (h : ∀ x, x = e → Q (.int x) H) : Q (.int e) H := h e rfl
theorem gl {e n : Int} (h : e = n) (q : Q (.int n) H) : Q (.int e) H := h ▸ q
theorem gs {e n : Str} (h : e = n) (q : Q (.str n) H) : Q (.str e) H := h ▸ q
theorem cc {v : V} {σ : L2.St} (h : Q v H) : tC v σ H Q := h
theorem p2 (k : Nat) : (0 : Int) < 2 ^ k := Int.pow_pos (by decide)
theorem gpow {k : Nat} (h : ∀ x, x = (2 : Int) ^ k → 0 < x → Q (.int x) H) : Q (.int (1 * 2 ^ k)) H := by
  rw [Int.one_mul]; exact h _ rfl (p2 k)
theorem gmod {i j : Int} (hj : 0 < j) (h : ∀ x, x = i % j → 0 ≤ x → x < j → Q (.int x) H) : Q (.int (i % j)) H :=
  h _ rfl (Int.emod_nonneg _ (by omega)) (Int.emod_lt_of_pos _ hj)
theorem gmax {i j : Int} (h : ∀ x, (i ≤ x ∧ j ≤ x ∧ (x = i ∨ x = j)) → Q (.int x) H) : Q (.int (if j > i then j else i)) H := by
  apply h; split <;> omega
theorem gmin {i j : Int} (h : ∀ x, (x ≤ i ∧ x ≤ j ∧ (x = i ∨ x = j)) → Q (.int x) H) : Q (.int (if j < i then j else i)) H := by
  apply h; split <;> omega
theorem max_ite {x i j : Int} (h : x = if j > i then j else i) : i ≤ x ∧ j ≤ x ∧ (x = i ∨ x = j) := by split at h <;> omega
theorem min_ite {x i j : Int} (h : x = if j < i then j else i) : x ≤ i ∧ x ≤ j ∧ (x = i ∨ x = j) := by split at h <;> omega
theorem abs_ite {x i : Int} (h : x = if i < 0 then -i else i) : (0 ≤ i ∧ x = i) ∨ (i < 0 ∧ x = -i) := by split at h <;> omega
theorem eqi {a b : Int} (h : a = b) (q : Q (.int b) H) : Q (.int a) H := h ▸ q
theorem eqb {a b : Bool} (h : a = b) (q : Q (.bl b) H) : Q (.bl a) H := h ▸ q
theorem eqd {P : Prop} [Decidable P] (h : P) (q : Q (.bl true) H) : Q (.bl (decide P)) H := by rw [decide_eq_true h]; exact q
theorem eqnd {P : Prop} [Decidable P] (h : ¬ P) (q : Q (.bl true) H) : Q (.bl (!decide P)) H := by rw [decide_eq_false h]; exact q
theorem eqeqi {i j : Int} (h : i = j) (q : Q (.bl true) H) : Q (.bl (decide (V.int i = V.int j))) H := by rw [decide_eq_true (by rw [h])]; exact q
theorem eqnei {i j : Int} (h : i ≠ j) (q : Q (.bl true) H) : Q (.bl (!decide (V.int i = V.int j))) H := by
  rw [decide_eq_false (fun z => h (V.int.inj z))]; exact q
theorem ginteq {i j : Int} (h : ∀ n : Int, ((n = 1 ∧ i = j) ∨ (n = 0 ∧ i ≠ j)) → Q (.int n) H) : Q (.int (if decide (V.int i = V.int j) = true then 1 else 0)) H := by
  by_cases e : i = j
  · rw [if_pos (decide_eq_true (by rw [e]))]; exact h _ (.inl ⟨rfl, e⟩)
  · rw [if_neg (fun z => e (V.int.inj (of_decide_eq_true z)))]; exact h _ (.inr ⟨rfl, e⟩)
theorem gintd {P : Prop} [Decidable P] (h : ∀ n : Int, ((n = 1 ∧ P) ∨ (n = 0 ∧ ¬ P)) → Q (.int n) H) : Q (.int (if decide P = true then 1 else 0)) H := by
  by_cases e : P
  · rw [if_pos (decide_eq_true e)]; exact h _ (.inl ⟨rfl, e⟩)
  · rw [if_neg (fun z => e (of_decide_eq_true z))]; exact h _ (.inr ⟨rfl, e⟩)
theorem ifb {b : Bool} (h1 : b = true → A) (h2 : b = false → B) : if b = true then A else B := by
  cases b
  · exact iteF (h2 rfl)
  · exact iteT (h1 rfl)
theorem ifd {P : Prop} [Decidable P] (h1 : P → A) (h2 : ¬ P → B) : if decide P = true then A else B := by
  by_cases e : P
  · rw [if_pos (decide_eq_true e)]; exact h1 e
  · rw [if_neg (fun z => e (of_decide_eq_true z))]; exact h2 e
theorem ifnd {P : Prop} [Decidable P] (h1 : ¬ P → A) (h2 : P → B) : if (!decide P) = true then A else B := by
  by_cases e : P
  · rw [decide_eq_true e]; exact iteF (h2 e)
  · rw [decide_eq_false e]; exact iteT (h1 e)
theorem ifeqi {i j : Int} (h1 : i = j → A) (h2 : i ≠ j → B) : if decide (V.int i = V.int j) = true then A else B :=
  ifd (fun e => h1 (V.int.inj e)) (fun e => h2 (fun z => e (by rw [z])))
theorem ifnei {i j : Int} (h1 : i ≠ j → A) (h2 : i = j → B) : if (!decide (V.int i = V.int j)) = true then A else B :=
  ifnd (fun e => h1 (fun z => e (by rw [z]))) (fun e => h2 (V.int.inj e))
theorem ifeqs {i j : Str} (h1 : i = j → A) (h2 : i ≠ j → B) : if decide (V.str i = V.str j) = true then A else B :=
  ifd (fun e => h1 (V.str.inj e)) (fun e => h2 (fun z => e (by rw [z])))
theorem ifnes {i j : Str} (h1 : i ≠ j → A) (h2 : i = j → B) : if (!decide (V.str i = V.str j)) = true then A else B :=
  ifnd (fun e => h1 (fun z => e (by rw [z]))) (fun e => h2 (V.str.inj e))
/-! heaps -/
theorem at_new {p q : Addr} {u o : HO} (hp : H p = none) (h : H q = some o) : upd H p u q = some o := by rw [upd_ne (ne_of_none h hp)]; exact h
theorem at_mut {b q : Addr} {u o : HO} (hn : q ≠ b) (h : H q = some o) : upd H b u q = some o := by rw [upd_ne hn]; exact h
theorem same_new {p : Addr} {u : HO} (hp : H p = none) : Same H (upd H p u) := fun _ _ h => at_new hp h
theorem same_mut {b : Addr} {u : HO} (s : Same H H') (hb : H b = none) : Same H (upd H' b u) := fun q o h => by rw [upd_ne (ne_of_none h hb)]; exact s q o h
theorem ne_sym {a b : Addr} (h : a ≠ b) : b ≠ a := fun z => h z.symm
theorem seq {K : PySem.W.Frag} {a : Addr} {xs : List V} (e : Same H H') (h : SqL K H a xs) : SqL K H' a xs := e.seq h
theorem seqT {K : PySem.W.Frag} {a : Addr} {xs : List V} (e : Same H H') (h : SqT K H a xs) : SqT K H' a xs := by
  rcases h with (h | ⟨o, h⟩) | h
  · exact .inl (.inl (e _ _ h))
  · exact .inl (.inr ⟨o, e _ _ h⟩)
  · exact .inr h
end
/-! operators -/
section
variable {X : Cx}
/-- named answers -/
theorem op_mulN : OpR X (binaryOp .Mult) (fun x y H Q => ∃ i j, x = .int i ∧ y = .int j ∧ (CMul i j ∨ CMulX i j) ∧ ∀ z, z = i * j → Q (.int z) H) := by
  intro pins s σ H x y v u Q I rx ry q
  obtain ⟨i, j, rfl, rfl, hc | hc, q⟩ := q
  · exact op_mul pins s σ H _ _ v u Q I rx ry ⟨i, j, rfl, rfl, hc, q _ rfl⟩
  · exact op_mulX pins s σ H _ _ v u Q I rx ry ⟨i, j, rfl, rfl, hc, q _ rfl⟩
theorem op_divN : OpR X (binaryOp .FloorDiv) (fun x y H Q => ∃ i j, x = .int i ∧ y = .int j ∧ CDivW i j ∧ ∀ z, z = i / j → Q (.int z) H) := by
  intro pins s σ H x y v u Q I rx ry q
  obtain ⟨i, j, rfl, rfl, hc, q⟩ := q
  exact op_fdivW pins s σ H _ _ v u Q I rx ry ⟨i, j, rfl, rfl, hc, q _ rfl⟩
theorem op_divF : OpR X (binaryOp .FloorDiv) (fun x y H Q => ∃ i j, x = .int i ∧ y = .int j ∧ (j ≠ 0 ∧ j.natAbs.log2 < 9000) ∧ ∀ z, z = i.fdiv j → Q (.int z) H) := by
  intro pins s σ H x y v u Q I rx ry q
  obtain ⟨i, j, rfl, rfl, hc, q⟩ := q
  obtain ⟨t, rfl⟩ := rx
  obtain ⟨t', rfl⟩ := ry
  exact PyProof.Rows.floordiv_int hc.1 ⟨.int (i.fdiv j), H, I.tok _, ⟨_, rfl⟩, q _ rfl⟩ (.inl (PyProof.noPylong_of_log2 hc.2))
theorem op_shlN : OpR X (binaryOp .LShift) (fun x y H Q => ∃ i j, x = .int i ∧ y = .int j ∧ (CPow i j ∨ CShl i j) ∧ ∀ z, z = i * 2 ^ j.toNat → Q (.int z) H) := by
  intro pins s σ H x y v u Q I rx ry q
  obtain ⟨i, j, rfl, rfl, hc | hc, q⟩ := q
  · exact op_shl pins s σ H _ _ v u Q I rx ry ⟨i, j, rfl, rfl, hc, q _ rfl⟩
  · exact op_shlW pins s σ H _ _ v u Q I rx ry ⟨i, j, rfl, rfl, hc, q _ rfl⟩
theorem op_shrN : OpR X (binaryOp .RShift) (fun x y H Q => ∃ i j, x = .int i ∧ y = .int j ∧ 0 ≤ j ∧ ∀ z, z = i / 2 ^ j.toNat → Q (.int z) H) := by
  intro pins s σ H x y v u Q I rx ry q
  obtain ⟨i, j, rfl, rfl, hc, q⟩ := q
  exact op_shr pins s σ H _ _ v u Q I rx ry ⟨i, j, rfl, rfl, hc, q _ rfl⟩
theorem op_modN : OpR X (binaryOp .Mod) (fun x y H Q => ∃ i j, x = .int i ∧ y = .int j ∧ 0 < j ∧ ∀ z, z = i % j → 0 ≤ z → z < j → Q (.int z) H) := by
  intro pins s σ H x y v u Q I rx ry q
  obtain ⟨i, j, rfl, rfl, hc, q⟩ := q
  exact op_mod pins s σ H _ _ v u Q I rx ry ⟨i, j, rfl, rfl, hc, q _ rfl (Int.emod_nonneg _ (by omega)) (Int.emod_lt_of_pos _ hc)⟩
theorem op_shl1 : OpR X (binaryOp .LShift) (fun x y H Q => ∃ j, x = .int 1 ∧ y = .int j ∧ (0 ≤ j ∧ j ≤ 1000000) ∧ ∀ z, z = 2 ^ j.toNat → 0 < z → Q (.int z) H) := by
  intro pins s σ H x y v u Q I rx ry q
  obtain ⟨j, rfl, rfl, ⟨h0, h1⟩, q⟩ := q
  refine op_shl pins s σ H _ _ v u Q I rx ry ⟨1, j, rfl, rfl, ⟨h0, h1, by decide⟩, ?_⟩
  show Q (.int (1 * 2 ^ j.toNat)) H
  rw [Int.one_mul]
  exact q _ rfl (p2 _)
theorem op_mask : OpR X (binaryOp .BitAnd) (fun x y H Q => ∃ (i j : Int) (k : Nat), x = .int i ∧ y = .int j ∧ j = 2 ^ k - 1 ∧ ∀ r, r = i % 2 ^ k → 0 ≤ r → r < 2 ^ k → Q (.int r) H) := by
  intro pins s σ H x y v u Q I rx ry h
  obtain ⟨i, j, k, rfl, rfl, rfl, q⟩ := h
  refine op_andM pins s σ H _ _ v u Q I rx ry ⟨i, k, rfl, rfl, q _ rfl (Int.emod_nonneg _ ?_) (Int.emod_lt_of_pos _ (p2 k))⟩
  have := p2 k; omega
theorem op_bor : OpR X (binaryOp .BitOr) (fun x y H Q => ∃ (i j : Int), x = .int i ∧ y = .int j ∧ 0 ≤ i ∧ 0 ≤ j ∧ ∀ r, r = Builtin.bitOr i j → 0 ≤ r → Q (.int r) H) := by
  intro pins s σ H x y v u Q I rx ry h
  obtain ⟨i, j, rfl, rfl, h0, h1, q⟩ := h
  refine op_or pins s σ H _ _ v u Q I rx ry ⟨i, j, rfl, rfl, q _ rfl ?_⟩
  rw [bitOr_nn h0 h1]
  exact Int.natCast_nonneg _
theorem call_intb : CallR X (.type "int") (fun xs H Q => ∃ k, xs = [.bl k] ∧ ∀ n : Int, ((n = 1 ∧ k = true) ∨ (n = 0 ∧ k = false)) → Q (.int n) H) := by
  intro pins s σ H xs us Q I r h
  obtain ⟨k, rfl, q⟩ := h
  refine call_int1 pins s σ H _ us Q I r (.inr ⟨k, rfl, ?_⟩)
  cases k
  · exact q _ (.inr ⟨rfl, rfl⟩)
  · exact q _ (.inl ⟨rfl, rfl⟩)
/-- an int's value by a name -/
def tNmi (t : TE) : TE := fun σ H Q => t σ H fun v H1 => ∃ i, v = .int i ∧ ∀ x, x = i → Q (.int x) H1
theorem pe_nmi {e : Expr} {t : TE} (h : PE X e t) : PE X e (tNmi t) := ⟨fun pins s σ H Q I q => thn (h.run pins s σ H _ I q) fun _ _ z => by
  obtain ⟨v, H1, I1, r1, i, rfl, q1⟩ := z
  exact ⟨.int i, H1, I1, r1, q1 i rfl⟩⟩
/-- a reckoned constant -/
def tLit (n : Int) (t : TE) : TE := fun σ H Q => t σ H fun v H1 => v = .int n ∧ Q (.int n) H1
theorem pe_lit (n : Int) {e : Expr} {t : TE} (h : PE X e t) : PE X e (tLit n t) := ⟨fun pins s σ H Q I q => thn (h.run pins s σ H _ I q) fun _ _ z => by
  obtain ⟨v, H1, I1, r1, rfl, q1⟩ := z
  exact ⟨.int n, H1, I1, r1, q1⟩⟩
end
theorem pow2_mono {a b : Nat} (h : a ≤ b) : (2 : Int) ^ a ≤ 2 ^ b := by
  have e : (2 : Int) ^ b = 2 ^ a * 2 ^ (b - a) := by rw [← Int.pow_add, show a + (b - a) = b by omega]
  rw [e]
  have h1 := p2 a
  have h2 := p2 (b - a)
  calc (2 : Int) ^ a = 2 ^ a * 1 := by omega
    _ ≤ 2 ^ a * 2 ^ (b - a) := Int.mul_le_mul_of_nonneg_left (by omega) (by omega)
theorem pow2_pred {w : Int} (h : 1 ≤ w) : (2 : Int) ^ w.toNat = 2 * 2 ^ (w - 1).toNat := by
  have e : w.toNat = (w - 1).toNat + 1 := by omega
  rw [e, Int.pow_succ, Int.mul_comm]
theorem pow2_lt {a b : Int} (h0 : 0 ≤ a) (h : a < b) : (2 : Int) ^ a.toNat < 2 ^ b.toNat := by
  have h1 := pow2_mono (a := a.toNat) (b := (b - 1).toNat) (by omega)
  have h2 := pow2_pred (w := b) (by omega)
  have h3 := p2 (b - 1).toNat
  omega
theorem pow2_le32 {w : Int} (h : w ≤ 32) : (2 : Int) ^ w.toNat ≤ 4294967296 := pow2_mono (b := 32) (by omega)
theorem pow2_le64 {w : Int} (h : w ≤ 64) : (2 : Int) ^ w.toNat ≤ 18446744073709551616 := pow2_mono (b := 64) (by omega)
theorem divw64 {i j : Int} (h0 : 0 < j) (h : j ≤ 18446744073709551616) : CDivW i j := wide_div h0 (b := 65) (by omega) (by decide) (by decide)
/-! sizes -/
def Sz (n : Nat) (i : Int) : Prop := i.natAbs < 2 ^ n
theorem Sz.lit {n : Nat} {i : Int} (h : i.natAbs < 2 ^ n) : Sz n i := h
theorem Sz.mono {a b : Nat} {i : Int} (h : Sz a i) (hab : a ≤ b) : Sz b i := Nat.lt_of_lt_of_le h (Nat.pow_le_pow_right (by decide) hab)
theorem Sz.mul {a b : Nat} {i j : Int} (h : Sz a i) (h' : Sz b j) : Sz (a + b) (i * j) := wide_lt h h'
theorem Sz.le {a : Nat} {i j : Int} (h : Sz a i) (hl : j.natAbs ≤ i.natAbs) : Sz a j := Nat.lt_of_le_of_lt hl h
theorem Sz.add {a : Nat} {i j : Int} (h : Sz a i) (h' : Sz a j) : Sz (a + 1) (i + j) := by
  unfold Sz at *
  rw [Nat.pow_succ]
  have := Int.natAbs_add_le i j
  omega
theorem Sz.neg {a : Nat} {i : Int} (h : Sz a i) : Sz a (-i) := by unfold Sz at *; rw [Int.natAbs_neg]; exact h
theorem Sz.sub {a : Nat} {i j : Int} (h : Sz a i) (h' : Sz a j) : Sz (a + 1) (i - j) := by
  rw [Int.sub_eq_add_neg]; exact h.add h'.neg
theorem Sz.pow {k : Int} {n : Nat} (h : k ≤ n) : Sz (n + 1) (2 ^ k.toNat) := by
  unfold Sz
  rw [Int.natAbs_pow]
  exact Nat.pow_lt_pow_right (by decide) (by omega)
theorem Sz.shl {a n : Nat} {i k : Int} (h : Sz a i) (hk : k ≤ n) : Sz (a + (n + 1)) (i * 2 ^ k.toNat) := h.mul (Sz.pow hk)
theorem Sz.div {a : Nat} {i j : Int} (h : Sz a i) (hj : 0 < j) : Sz a (i / j) := by
  refine h.le ?_
  have h1 := Int.ediv_mul_add_emod i j
  have h2 := Int.emod_nonneg i (show j ≠ 0 by omega)
  have h3 := Int.emod_lt_of_pos i hj
  by_cases hi : i < 0
  · have h4 : i ≤ i / j := by
      refine (Int.le_ediv_iff_mul_le hj).mpr ?_
      have : i * 1 ≥ i * j := Int.mul_le_mul_of_nonpos_left (by omega) (by omega)
      omega
    have h5 : i / j < 0 := Int.ediv_neg_of_neg_of_pos hi hj
    omega
  · have h4 : i / j ≤ i := Int.ediv_le_self _ (by omega)
    have h5 : 0 ≤ i / j := Int.ediv_nonneg (by omega) (by omega)
    omega
theorem Sz.rng {n : Nat} {i j : Int} (h0 : 0 ≤ i) (h1 : i < j) (h : j.natAbs ≤ 2 ^ n) : Sz n i := by
  unfold Sz; omega
theorem Sz.md {n : Nat} {i j : Int} (h0 : 0 ≤ i) (h1 : i < j) (h : Sz n j) : Sz n i := by
  unfold Sz at *; omega
theorem Sz.abs {n : Nat} {x i : Int} (h : Sz n i) (hx : x = if i < 0 then -i else i) : Sz n x := by
  refine h.le ?_; split at hx <;> omega
theorem mul0 {i j : Int} (h : -(2 ^ 64) < i ∧ i < 2 ^ 64) : CMul i j ∨ CMulX i j := .inl (.inl h)
theorem mul1 {i j : Int} (h : -(2 ^ 64) < j ∧ j < 2 ^ 64) : CMul i j ∨ CMulX i j := .inl (.inr h)
theorem shl0 {i j : Int} (h : 0 ≤ j) (h' : j ≤ 1000000) (h2 : i.natAbs < 2 ^ 64) : CPow i j ∨ CShl i j := .inl ⟨h, h', h2⟩
theorem mulx {a b : Nat} {i j : Int} (h : Sz a i) (h' : Sz b j) (hl : a + b ≤ 134217728) : CMulX i j := mulx_ok h h' hl
theorem divz {b : Nat} {i j : Int} (h : 0 < j) (hb : Sz b j) (h0 : 0 < b) (h9 : b ≤ 9000) : CDivW i j := wide_div h hb h0 h9
theorem divzF {b : Nat} {j : Int} (h : j ≠ 0) (hb : Sz b j) (h0 : 0 < b) (h9 : b ≤ 9000) : j ≠ 0 ∧ j.natAbs.log2 < 9000 := ⟨h, Nat.lt_of_lt_of_le (PySem.Flt.log2_lt_of h0 hb) h9⟩
theorem eqdd {P P' : Prop} [Decidable P] [Decidable P'] {Q : VK} {H : Hp} (h : P ↔ P') (q : Q (.bl (decide P')) H) : Q (.bl (decide P)) H := by rw [decide_eq_decide.mpr h]; exact q
theorem eqeqb {i j : Bool} {Q : VK} {H : Hp} (h : i = j) (q : Q (.bl true) H) : Q (.bl (decide (V.bl i = V.bl j))) H := by rw [decide_eq_true (by rw [h])]; exact q
theorem ix_tupK {X : Cx} {K : PySem.W.Frag} (h : X.K = K) : IxR X (rIxT K) := h ▸ ix_tup
theorem ix_listK {X : Cx} {K : PySem.W.Frag} (h : X.K = K) : IxR X (rIxL K) := h ▸ ix_list
theorem shlz {a n : Nat} {i j : Int} (h : Sz a i) (h0 : 0 ≤ j) (hj : j ≤ n) (hn : a + n ≤ 134217728) : CShl i j := by
  obtain ⟨k, rfl⟩ : ∃ k : Nat, j = k := ⟨j.toNat, by omega⟩
  exact shl_ok h (by omega)
/-- all but the object at b is as it was -/
def Fm (b : Addr) (H H' : Hp) : Prop := ∀ q o, q ≠ b → H q = some o → H' q = some o
theorem Fm.refl {b : Addr} {H : Hp} : Fm b H H := fun _ _ _ h => h
theorem Fm.same {b : Addr} {H H1 H2 : Hp} (a : Fm b H H1) (s : Same H1 H2) : Fm b H H2 := fun q o n h => s q o (a q o n h)
theorem Fm.mut {b : Addr} {H H1 : Hp} {u : HO} (a : Fm b H H1) : Fm b H (upd H1 b u) := fun q o n h => by rw [upd_ne n]; exact a q o n h
theorem Fm.mutF {b c : Addr} {H H1 : Hp} {u : HO} (a : Fm b H H1) (hc : H c = none) : Fm b H (upd H1 c u) := fun q o n h => by rw [upd_ne (ne_of_none h hc)]; exact a q o n h
theorem Fm.trans {b : Addr} {H H1 H2 : Hp} (a : Fm b H H1) (s : Fm b H1 H2) : Fm b H H2 := fun q o n h => s q o n (a q o n h)
theorem Fm.frameF {b c : Addr} {H H1 H2 : Hp} (a : Fm b H H1) (s : Fm c H1 H2) (hc : H c = none) : Fm b H H2 := fun q o n h => s q o (ne_of_none h hc) (a q o n h)
theorem Fm.free {b : Addr} {H H' : Hp} (a : Fm b H H') {o : HO} {l : Addr} (hb : H' b = some o) (h : H' l = none) : H l = none := by
  cases e : H l with
  | none => rfl
  | some u =>
    have n : l ≠ b := fun z => by rw [z, hb] at h; cases h
    rw [a l u n e] at h; cases h
theorem same_frame {c : Addr} {H H1 H2 : Hp} (s : Same H H1) (f : Fm c H1 H2) (hc : H c = none) : Same H H2 := fun q o h => f q o (ne_of_none h hc) (s q o h)
/-! lists of ints -/
theorem szl {n : Nat} (h : n < 1000000) : n < sizeLine := Nat.lt_of_lt_of_le h (by decide)
theorem szle {n : Nat} (h : n ≤ 1000000) : n ≤ sizeLine := Nat.le_trans h (by decide)
section
variable {X : Cx} {K : PySem.W.Frag} {H H' : Hp} {Q : VK} {a : Addr}
theorem ap_ints {xs : List Int} {e : Int} (h : H a = some (.lst (xs.map V.int ++ [.int e]))) : H a = some (.lst ((xs ++ [e]).map V.int)) := by
  rw [List.map_append]; exact h
theorem set_ints {xs : List Int} {e : Int} {j : Nat} (h : H a = some (.lst ((xs.map V.int).set j (.int e)))) : H a = some (.lst ((xs.set j e).map V.int)) := by
  rw [List.map_set]; exact h
theorem dpAll_ints : ∀ xs : List Int, DpAll K H (xs.map V.int) (xs.map PyData.int)
  | [] => .nil
  | x :: xs => .cons (.int x) (dpAll_ints xs)
theorem dp_ints {xs : List Int} (h : SqL K H a (xs.map V.int)) : Dp K H (.ref a) (.list (xs.map PyData.int)) := .lst h (dpAll_ints xs)
theorem layAll_ints : ∀ xs : List Int, PyData.canLayAll0 (xs.map PyData.int) = true
  | [] => rfl
  | x :: xs => by
    rw [List.map_cons, PyData.canLayAll0, layAll_ints xs]
    rfl
theorem depAll_ints : ∀ xs : List Int, PyData.depthAll (xs.map PyData.int) = 0
  | [] => rfl
  | x :: xs => by
    rw [List.map_cons, PyData.depthAll, depAll_ints xs]
    rfl
theorem shaped_ints (xs : List Int) : SeqAt.shaped (.list (xs.map PyData.int)) = true := by
  unfold SeqAt.shaped
  rw [PyData.canLay0, PyData.depth, layAll_ints, depAll_ints]
  rfl
theorem eqvAll_ints : ∀ xs ys : List Int, PyData.eqvAll (xs.map PyData.int) (ys.map PyData.int) = decide (xs = ys)
  | [], [] => rfl
  | [], _ :: _ => rfl
  | _ :: _, [] => rfl
  | x :: xs, y :: ys => by
    rw [List.map_cons, List.map_cons, PyData.eqvAll, PyData.eqv, eqvAll_ints xs ys]
    by_cases h : x = y
    · by_cases h2 : xs = ys <;> simp [h, h2]
    · simp [h]
theorem eqv_ints (xs ys : List Int) : PyData.eqv (.list (xs.map PyData.int)) (.list (ys.map PyData.int)) = decide (xs = ys) := by
  rw [PyData.eqv]; exact eqvAll_ints xs ys
theorem op_eqI (hu : X.A.units + 64 < cLine) : OpR X (compareOp .Eq) (fun x y H Q => ∃ (a b : Addr) (xs ys : List Int), x = .ref a ∧ y = .ref b ∧ SqL X.K H a (xs.map V.int) ∧ SqL X.K H b (ys.map V.int) ∧ Q (.bl (decide (xs = ys))) H) := by
  intro pins s σ H x y v u Q I rx ry h
  obtain ⟨a, b, xs, ys, rfl, rfl, h1, h2, q⟩ := h
  refine op_eqD hu pins s σ H _ _ v u Q I rx ry ⟨_, _, dp_ints h1, dp_ints h2, shaped_ints _, shaped_ints _, ?_⟩
  rw [eqv_ints]; exact q
theorem op_neI (hu : X.A.units + 64 < cLine) : OpR X (compareOp .NotEq) (fun x y H Q => ∃ (a b : Addr) (xs ys : List Int), x = .ref a ∧ y = .ref b ∧ SqL X.K H a (xs.map V.int) ∧ SqL X.K H b (ys.map V.int) ∧ Q (.bl (!decide (xs = ys))) H) := by
  intro pins s σ H x y v u Q I rx ry h
  obtain ⟨a, b, xs, ys, rfl, rfl, h1, h2, q⟩ := h
  refine op_neD hu pins s σ H _ _ v u Q I rx ry ⟨_, _, dp_ints h1, dp_ints h2, shaped_ints _, shaped_ints _, ?_⟩
  rw [eqv_ints]; exact q
theorem ixN_nat {n j : Nat} (h : j < n) : ixN n (j : Int) = some j := by
  unfold ixN
  rw [if_pos (by omega), if_pos (by omega)]; simp
theorem ixlast {xs : List Int} (h : SqL K H a (xs.map V.int)) (h0 : 0 < xs.length) (q : ∀ y, xs.getLast? = some y → Q (.int y) H) : rIxL K (.ref a) (.int (-1)) H Q := by
  obtain ⟨y, hy⟩ : ∃ y, xs.getLast? = some y := by
    cases e : xs.getLast? with
    | none => rw [List.getLast?_eq_none_iff] at e; subst e; simp at h0
    | some y => exact ⟨y, rfl⟩
  refine ⟨a, _, _, .int y, rfl, rfl, h, ?_, q y hy⟩
  obtain ⟨ys, rfl⟩ := List.getLast?_eq_some_iff.mp hy
  rw [List.map_append]
  exact atI_last _ _
end
/-! items -/
section
variable {K : PySem.W.Frag} {H : Hp} {Q : VK} {a : Addr}
theorem ixi {xs : List Int} {i : Int} (h : SqL K H a (xs.map V.int)) (h0 : 0 ≤ i) (h1 : i < xs.length) (q : ∀ y, xs[i.toNat]? = some y → Q (.int y) H) : rIxL K (.ref a) (.int i) H Q := by
  obtain ⟨n, rfl⟩ : ∃ n : Nat, i = n := ⟨i.toNat, by omega⟩
  have hl : n < xs.length := by omega
  refine ⟨a, _, _, .int (xs[n]'hl), rfl, rfl, h, atI_nat ?_, q _ (List.getElem?_eq_getElem hl)⟩
  rw [List.getElem?_map, List.getElem?_eq_getElem hl]
  all_goals rfl
theorem inV_int {y : Int} {xs : List Int} (h : y ∈ xs) : (if false = true then !(inV (.int y) (xs.map V.int)) else inV (.int y) (xs.map V.int)) = true := by
  rw [if_neg Bool.false_ne_true]
  unfold inV
  rw [List.any_map, List.any_eq_true]
  exact ⟨y, h, by simp [eqV]⟩
theorem ixn {xs : List Int} {i : Int} (h : SqL K H a (xs.map V.int)) (h0 : 0 ≤ i) (h1 : i < xs.length) (q : ∀ y, xs[i.toNat]? = some y → Q (.int y) H) : rIxL K (.ref a) (.int i) H Q := ixi h h0 h1 q
theorem ixi2 {x0 x1 : Int} {i : Int} (h : SqL K H a [.int x0, .int x1]) (hi : 0 ≤ i ∧ i < 2) (q : ∀ y, ((i = 0 ∧ y = x0) ∨ (i = 1 ∧ y = x1)) → Q (.int y) H) : rIxL K (.ref a) (.int i) H Q := by
  refine ixi (xs := [x0, x1]) h hi.1 hi.2 fun y hy => q y ?_
  have : i = 0 ∨ i = 1 := by omega
  rcases this with rfl | rfl <;> simp at hy <;> omega
theorem gturn {n i : Nat} {σ : L2.St} {R : L2.St → Hp → Prop} (h : ∀ x : Int, x = (i : Int) → gName n (.int x) σ H R) : gName n (.int (0 + (i : Int))) σ H R := h _ (by omega)
/-! a for over a written list, turn by turn -/
def unr (K : PySem.W.Frag) (a : Addr) (xs : List V) (g : TG) (tb : TS) (D : Ends) : List V → L2.St → Hp → Prop
  | [], σ, H => SqL K H a xs ∧ D.nx σ H
  | x :: r, σ, H => SqL K H a xs ∧ g x σ H fun σ2 H2 => tb { D with nx := unr K a xs g tb D r, ct := unr K a xs g tb D r, bk := D.nx } σ2 H2
theorem un_start {xs : List V} {g : TG} {tb : TS} {D : Ends} {σ : L2.St} (h : unr K a xs g tb D xs σ H) :
    ∃ W : Nat → Nat → L2.St → Hp → Prop, (∃ m, W 0 m σ H) ∧ ∀ i m σ H, W i m σ H →
      ((Itl K a).stop i H ∧ D.nx σ H) ∨ ((Itl K a).go i H ∧ ∃ N : L2.St → Hp → Prop, (∀ σ' H', N σ' H' → ∃ m', m' < m ∧ W (i + 1) m' σ' H') ∧ ∀ x H', (Itl K a).yld i H x H' → g x σ H' fun σ2 H2 => tb { D with nx := N, ct := N, bk := D.nx } σ2 H2) := by
  refine ⟨fun i m σ H => m = xs.length - i ∧ i ≤ xs.length ∧ unr K a xs g tb D (xs.drop i) σ H, ⟨xs.length, by simp, Nat.zero_le _, h⟩, ?_⟩
  rintro i m σ H ⟨rfl, hi, p⟩
  by_cases hlt : i < xs.length
  · rw [List.drop_eq_getElem_cons hlt] at p
    obtain ⟨q, p⟩ := p
    refine .inr ⟨⟨xs, xs[i], q, by simp [hlt]⟩, unr K a xs g tb D (xs.drop (i + 1)), fun σ' H' p' => ⟨xs.length - (i + 1), by omega, rfl, hlt, p'⟩, fun x H' y => ?_⟩
    obtain ⟨e, y⟩ := y
    subst e
    have e2 := y xs q
    rw [List.getElem?_eq_getElem hlt] at e2
    cases e2
    exact p
  · have e : i = xs.length := by omega
    subst e
    rw [List.drop_length] at p
    obtain ⟨q, p⟩ := p
    exact .inl ⟨⟨xs, q, Nat.le_refl _⟩, p⟩
end
/-- a def that stands behind the top -/
structure Dk (K : PySem.W.Frag) (mg : Str → Option Value) (x qual : Str) (st : Stmt) (ps : List Str) : Type where
  f : Addr
  fd : FuncData
  F : Fun K x qual st f fd
  b : Binds K fd ps []
  m : mg x = some (.ref f)
end Ow

namespace Ow
open PySem L2

section
variable {X : Cx} {e : Expr} {es : List Expr} {ta : TA} {b : Str} {B : Addr} {mc : Value} {p1 p2 pos : Pos}
open PyProof.Rows PySem.Spec in
/-- B.__init__(self, ..), B an own class whose __init__ is ValueError's -/
theorem pe_winit {pl : Sem Bool} (hg : Gl X b) (hm : X.mg b = some (.ref B)) (rd : ClX.CRead X.K B mc) (cv : PySem.W.findCls X.K (.ref B) mc "__init__" = some (.val (.builtin "ValueError.__init__"))) (ha : PA X (e :: es) ta)
    (hdb : (b == ("__debug__" : Str)) = false := by decide)
    (hc : eval (.Call (.Attribute (.Name b p1) "__init__" p2) (e :: es) [] pos) X.env = (do
      let ov ← eval (.Name b p1) X.env
      standAt p2.atName
      let (f, first) ← holding [ov] (getMethod ov "__init__" pl)
      callWith pos f first (backTo pos (starEach (e :: es) X.env)) (backToKw pos (keywordEach [] X.env))) := by rfl)
    (he : starEach (e :: es) X.env = (false, eval e X.env) :: starEach es X.env := by rfl) (hpl : (backTo pos (starEach es X.env)).any (·.1) = false := by rfl) :
    PE X (.Call (.Attribute (.Name b p1) "__init__" p2) (e :: es) [] pos) (tVeI X.K ta) := by
  refine ⟨fun pins s σ H Q I h => ?_⟩
  refine PySem.W.methodCall_KW (ld_glob I hg hm ?_ hdb) hc
  refine PySem.W.method_cls I.kIn rd.ga (PySem.W.cls_value I.kIn rd.rd cv (by decide +kernel) ?_)
  show wpAny _ _ (callWith pos (Value.builtin "ValueError.__init__") [] (backTo pos (starEach (e :: es) X.env)) []) _ _ _
  refine PyProof.Rows.callWith_method1 (thn (ha.run pos pins _ σ H _ (I.tok _) h) fun us s1 ⟨vs, H1, I1, r1, a, C, ws, ev, hl, T, ea, q⟩ => ?_) he hpl
  subst ev
  cases r1 with
  | @cons _ u0 _ ur ra rw' =>
    obtain rfl : u0 = Value.ref a := ra
    have hlen : ur.length ≤ sizeLine := by
      rw [← Paired.length rw', sizeLine_eq]
      omega
    exact oinit_ok T I1 ea hlen fun s' J => ⟨.non, H1, J, rfl, q⟩
/-- C(), C's own __init__ keeping sp, no field stored -/
def tMkN (C : Addr) (sp : Sp) : L2.St → Hp → XK → Prop := fun σ H1 Q => ∀ a, H1 a = none → sp [.ref a] (upd H1 a (exo a C none))
  (fun v H2 => v = .non ∧ H2 a = some (exo a C none) ∧ Q (.ref C) none (del H2 a)) (fun _ _ _ => False)
open PyProof.Rows PySem.Spec in
theorem mk_endN {pins : List (Addr × Obj)} {σ : L2.St} {H1 H2 : Hp} {hp hp2 h2 : Heap} {g1 g2 : Array GenState} {d1 d2 : Drawn} {t1 t2 : Nat} {os1 os2 : OsState} {a C : Addr} (I1 : L2.Inv X pins σ H1 ⟨hp, g1, d1, t1, os1⟩)
    (ha : hp.objs.size ≤ a) (k : ∀ b o, hp.get? b = some o → hp2.get? b = some o) (un : Un (frs X.stack) [] (upd H1 a (exo a C none)) H2 hp2 h2) (hok : HOk X.prog X.w H2 h2) (ho : os2 = os1) (hb : AllBare g2)
    (ea : H2 a = some (exo a C none)) :
    ∃ (t0 : Addr) (G : Heap), L2.Inv X pins σ (del H2 a) ⟨G, g2, d2, t2, os2⟩ ∧ (∀ b o, G.get? b = some o → h2.get? b = some o) ∧ G.get? a = none ∧
      h2.get? a = some ({ cls := .ref C, dict := none, data := .fields #[.ref t0, .none, .none, .none, .bool false, .none] } : Obj) ∧ (del H2 a) a = none := by
  obtain ⟨t0, hoe⟩ := exo_at hok ea
  have hn : H1 a = none := I1.hok.fresh ha
  obtain ⟨G, g1', g2'⟩ := restrict h2 fun b => decide (b ≠ a)
  have gk : ∀ b, b ≠ a → G.get? b = h2.get? b := fun b hb => g1' b (decide_eq_true hb)
  have ge : G.get? a = none := g2' a (by simp)
  have nha : ∀ {b : Addr} {o : Obj}, hp.get? b = some o → b ≠ a := fun {b o} z => Nat.ne_of_lt (Nat.lt_of_lt_of_le (Heap.lt_size z) ha)
  have up : ∀ {b : Addr}, b ≠ a → H1 b = none → upd H1 a (exo a C none) b = none := fun {b} hb n => by rw [upd_ne hb]; exact n
  have U : Un (frs X.stack) [] H1 (del H2 a) hp G := {
    keep := fun b o z n hf hx => by
      rw [gk b (nha z)]
      exact un.keep b o (k b o z) (up (nha z) n) hf hx
    slot := fun b o z n hf hx => by
      rw [gk b (nha z)]
      exact un.slot b o (k b o z) (up (nha z) n) hf hx
    free := fun b o z n hx => by
      rw [del_ne (nha z)]
      exact un.free b o (k b o z) (up (nha z) n) hx
    there := fun b o z hx => by
      rw [gk b (nha z)]
      exact un.there b o (k b o z) hx
    tups := fun b xs z => by
      rw [del_ne (ne_of_none z hn)]
      exact un.tups b xs (by rw [upd_ne (ne_of_none z hn)]; exact z)
    frzs := fun b o v z => by
      rw [del_ne (ne_of_none z hn)]
      exact un.frzs b o v (by rw [upd_ne (ne_of_none z hn)]; exact z)
    tbls := fun b ps z => by
      rw [del_ne (ne_of_none z hn)]
      exact un.tbls b ps (by rw [upd_ne (ne_of_none z hn)]; exact z) }
  have hok3 : HOk X.prog X.w (del H2 a) G := fun b o z => by
    have hba : b ≠ a := fun e => by
      rw [e, del_same] at z
      cases z
    rw [del_ne hba] at z
    have noa : ∀ {c : Addr}, H2 c = some (.own b) → c ≠ a := fun {c} hc => at_ne ea hc exo_own
    exact (hok b o z).stay (fun c v hc y => by
        have hca : c ≠ a := by
          rcases hc with hc | hc
          · rw [hc]
            exact hba
          · exact noa hc
        rw [gk c hca]
        exact y)
      (fun c hc => by rw [del_ne (noa hc)]; exact hc) (fun c xs hc => by rw [del_ne (at_ne ea hc exo_tup)]; exact hc)
  have J : L2.Inv X pins σ (del H2 a) ⟨G, g2, d2, t2, os2⟩ := I1.call' (ch := []) ho U hok3 hb (fun b z => absurd z (by simp))
  refine ⟨t0, G, J, fun b o z => ?_, ge, hoe, del_same⟩
  by_cases hba : b = a
  · rw [hba, ge] at z
    cases z
  · exact (gk b hba).symm.trans z
open PyProof.Rows PySem.Spec in
theorem pmk_oexN {CX : CXT} {x : Str} {C fI : Addr} {k : Nat} {fd : FuncData} {ps : List Str} {sp : Sp} {p : Pos} (T : OexC X.K C) (iC : PySem.W.findIn X.K (.ref C) "__init__" = some (some (.ref fI))) (tI : PySem.W.typeIn X.K (.ref fI) = some (.type "function"))
    (F1 : FnOk X.prog X.w X.K X.mg X.base CX k fI fd ps sp) (hr : Room (k + 1) X.A) (hb : Binds X.K fd ps []) (hx : Passes CX X (fun _ _ _ => False)) (hg : Gl X x) (hm : X.mg x = some (.ref C))
    (hdb : (x == ("__debug__" : Str)) = false := by decide) :
    PMk X (.Call (.Name x p) [] [] pos) (tMkN C sp) := by
  intro pins s σ H Q I q1
  obtain ⟨nm, q, N, bs, bm, sn, sub, ab, col, dd, k0, k1, k2, k3, k5, hC, hbm⟩ := T.cls
  refine wpAny_Call_Name_kw (ld_glob I hg hm ?_ hdb)
  refine PySem.W.callWith_K0 I.kIn T.kC ?_
  show wpAny _ _ (call (.ref C) []) _ _ _
  obtain ⟨hp, g, dr, tk, os⟩ := s
  have hsz : hp.objs.size ≤ hp.objs.size + 1 := Nat.le_succ _
  have hn : H (hp.objs.size + 1) = none := I.hok.fresh hsz
  have hq := q1 (hp.objs.size + 1) hn
  have kk : ∀ b o, hp.get? b = some o → ((hp.push (PySem.W.kdv_tup [])).push (PySem.HandSPX.excO C hp.objs.size)).get? b = some o := fun b o e => Heap.get?_push_of_some _ (Heap.get?_push_of_some _ e)
  have hget : ((hp.push (PySem.W.kdv_tup [])).push (PySem.HandSPX.excO C hp.objs.size)).get? (hp.objs.size + 1) = some (PySem.HandSPX.excO C hp.objs.size) := by heap_get
  have I2 : L2.Inv X pins σ (upd H (hp.objs.size + 1) (exo (hp.objs.size + 1) C none)) ⟨(hp.push (PySem.W.kdv_tup [])).push (PySem.HandSPX.excO C hp.objs.size), g, dr, tk, os⟩ :=
    I.laid (t' := tk) (a := hp.objs.size + 1) (o := exo (hp.objs.size + 1) C none) (h' := (hp.push (PySem.W.kdv_tup [])).push (PySem.HandSPX.excO C hp.objs.size)) kk hsz (exo_ok hget)
  have r2 : Vals [V.ref (hp.objs.size + 1)] [Value.ref (hp.objs.size + 1)] := .cons rfl .nil
  have hl : ([Value.ref (hp.objs.size + 1)] : List Value).length = ps.length := by
    have e := r2.length
    rw [F1.len _ _ _ _ hq] at e
    exact e.symm
  refine wpAny_call (PySem.HandSPX.call_own F.excBase_ValueError (fun Y => PySem.HandSPX.refsVE_contains Y bm hbm) (I.kIn _ _ hC) (PySem.W.looks_findIn I.kIn iC) (fun self => PySem.W.bind_fn I.kIn self tI) (by simp)
    (codeAny_mono (F1.run _ X.stack _ _ ⟨[Value.ref (hp.objs.size + 1)], []⟩ ([Value.ref (hp.objs.size + 1)] ++ []) _ _ (fun _ _ _ => False) (hr.make C [] []) (I2.env0.make C [] []) (hb _ [Value.ref (hp.objs.size + 1)] I2.kIn hl) (r2.append .nil) hq) fun r s' hq' => ?_))
  cases r with
  | error er => exact hx pins σ _ _ er s' I2 hq'
  | ok fl =>
    cases fl with
    | ret u =>
      obtain ⟨v, H2, os2, bare2, un2, hok2, rv, ev, ea, q2⟩ := hq'
      subst ev
      obtain ⟨h2, g2, d2, t2, os'⟩ := s'
      refine ⟨rv, ?_⟩
      obtain ⟨t0, G, J, kG, ge, hoe, na⟩ := mk_endN (d2 := d2) (t2 := t2) I hsz kk un2 hok2 os2 bare2 ea
      exact ⟨hp.objs.size + 1, _, _, ⟨G, g2, d2, t2, os'⟩, _, .ref C, none, rfl, J, kG, ge, hoe, ⟨rfl, rfl⟩, rfl, rfl, na, rfl, bare2, raises_own T.exC T.tyC, q2⟩
    | next => exact False.elim hq'
    | brk => exact False.elim hq'
    | cont => exact False.elim hq'
end

theorem del_upd {H : Hp} {a : Addr} {o : HO} (h : H a = none) : del (upd H a o) a = H := by
  funext b
  by_cases hb : b = a
  · rw [hb, del_same, h]
  · rw [del_ne hb, upd_ne hb]
/-- isinstance of what the suite holds -/
theorem call_isE2 {X : Cx} {a : Addr} {oe : Obj} {cls : Value} {d : Option Addr} {pn : List (Addr × Obj)} (hz : Zc cls d oe) (hf : ∃ vs, oe.data = .fields vs) :
    CallR (X.suite a ((a, oe) :: pn)) (.builtin "isinstance") (fun xs H Q => ∃ (D C : Addr) (b : Bool), cls = .ref D ∧ d = none ∧ ExcC X.K D ∧ xs = [.ref a, .ref C] ∧ PySem.W.kitOne X.K (.ref D) (.ref C) = some b ∧ Q (.bl b) H) := by
  intro pins s σ H xs us Q I r h
  obtain ⟨D, C, b, rfl, rfl, E, rfl, hk, q⟩ := h
  exact call_isE E hz hf pins s σ H _ us Q I r ⟨.ref C, .ref C, b, rfl, fun u h => h, hk, q⟩
structure Xc (K : PySem.W.Frag) (mg : Str → Option Value) (x : Str) : Type where
  C : Addr
  m : mg x = some (.ref C)
  oex : OexC K C
  ex : ExcC K C
structure Bc (K : PySem.W.Frag) (mg : Str → Option Value) (x : Str) : Type where
  C : Addr
  m : mg x = some (.ref C)
  mc : Value
  rd : ClX.CRead K C mc
  cv : PySem.W.findCls K (.ref C) mc "__init__" = some (.val (.builtin "ValueError.__init__"))
structure Xi (K : PySem.W.Frag) (C : Addr) (qual : Str) (st : Stmt) (ps : List Str) : Type where
  f : Addr
  fd : FuncData
  F : Fun K "__init__" qual st f fd
  b : Binds K fd ps []
  iC : PySem.W.findIn K (.ref C) "__init__" = some (some (.ref f))
  tI : PySem.W.typeIn K (.ref f) = some (.type "function")

theorem kit_self {K : PySem.W.Frag} {t : Value} : PySem.W.kitOne K t t = some true := by
  unfold PySem.W.kitOne; rw [if_pos (beq_self_eq_true _)]
theorem kit_sub {K : PySem.W.Frag} {t : Value} {C : Addr} {b : Bool} (ne : (t == Value.ref C) = false) (h2 : PySem.W.isClsIn K C = true) (h3 : PySem.W.typeIn K (.ref C) = some (.type "type")) (h4 : PySem.W.subIn K t (.ref C) = some b) : PySem.W.kitOne K t (.ref C) = some b := by
  unfold PySem.W.kitOne PySem.W.kitCls
  have h2' : (PySem.W.clsIn K C).isSome = true := h2
  rw [if_neg (by rw [ne]; decide)]
  dsimp only
  rw [if_pos (by rw [h2', h3]; rfl)]
  exact h4

/-- C() of a class without any __init__ -/
structure Mk0 (K : PySem.W.Frag) (C : Addr) : Prop where
  makes : PySem.W.makesIn K C = true
  init : PySem.W.findIn K (.ref C) "__init__" = some (some (.builtin "object.__init__"))
  top : PySem.W.mroIn K C (.type "object") = some true
  kp : PySem.W.keepIn K (.ref C) = true
section
variable {X : Cx} {C : Addr} {x : Str} {p pos : Pos}
open PySem.W PySem.Calls PyProof.Rows NwA in
theorem run_make00 {pins : List (Addr × Obj)} {σ : L2.St} {H : Hp} {s : Shared} {Q : VK} (M : Mk0 X.K C) (I : L2.Inv X pins σ H s)
    (h : ∀ x dx, H x = Option.none → H dx = Option.none → dx ≠ x → Q (.ref x) (upd (upd H dx (.own x)) x (.ins C dx []))) : wpAny (model X.prog X.w) X.A (PySem.call (.ref C) []) (EP X pins σ Q) X.xe s := by
  have hq := h (s.heap.objs.size + 1) s.heap.objs.size (I.hok.fresh (Nat.le_succ _)) (I.hok.fresh (Nat.le_refl _)) (Nat.ne_of_lt (Nat.lt_succ_self _))
  have I2 := Inv.made (C := C) I
  refine wpAny_call (make_map0 I.kIn M.makes M.init (fun self => Looks.of_pure (oi_bind _)) ?_)
  have ho : ((s.heap.push PySem.W.emptyDict).push (PySem.W.instObj C s.heap.objs.size)).get? (s.heap.objs.size + 1) = some (PySem.W.instObj C s.heap.objs.size) := by
    have := Heap.get?_push_size (s.heap.push PySem.W.emptyDict) (o := PySem.W.instObj C s.heap.objs.size) rfl
    rwa [Heap.size_push] at this
  have t1 : Looks (model X.prog X.w) ((s.heap.push PySem.W.emptyDict).push (PySem.W.instObj C s.heap.objs.size)) (typeOf (.ref (s.heap.objs.size + 1))) (.ref C) := type_at ho rfl
  have t2 : Looks (model X.prog X.w) ((s.heap.push PySem.W.emptyDict).push (PySem.W.instObj C s.heap.objs.size)) (isInstance (.ref (s.heap.objs.size + 1)) (.type "object")) true := t1.andThen (looks_mroIn I2.kIn M.top)
  refine codeAny_call_builtin oi_plain entry_oi (@check_slot _ _ _ _ "object.__init__" "object" "__init__" (.ref (s.heap.objs.size + 1)) [] [] _ oi_kind oi_split t2 (oi_args_any _ [] []) ?_)
  rw [oi_run]
  exact wpAny_pure ⟨rfl, ⟨V.ref (s.heap.objs.size + 1), _, I2, rfl, hq⟩⟩
def tMake00 (C : Addr) : TE := fun _ H Q => ∀ x dx, H x = none → H dx = none → dx ≠ x → Q (.ref x) (upd (upd H dx (.own x)) x (.ins C dx []))
theorem pe_make00 (M : Mk0 X.K C) (hg : Gl X x) (hm : X.mg x = some (.ref C)) (hdb : (x == ("__debug__" : Str)) = false := by decide) : PE X (.Call (.Name x p) [] [] pos) (tMake00 C) := by
  refine ⟨fun pins s σ H Q I h => ?_⟩
  refine wpAny_Call_Name_kw (ld_glob I hg hm ?_ hdb)
  exact PySem.W.callWith_K0 I.kIn M.kp (run_make00 M I h)
/-- one of two readings -/
theorem pe_alt {e : Expr} {t u : TE} (h1 : PE X e t) (h2 : PE X e u) : PE X e (fun σ H Q => t σ H Q ∨ u σ H Q) :=
  ⟨fun pins s σ H Q I h => h.elim (h1.run pins s σ H Q I) (h2.run pins s σ H Q I)⟩
end

end Ow
namespace Ow
open PySem L2
local macro_rules | `(tactic| walk_at "ob") => `(tactic| first | assumption | omega | exact ⟨by omega, by omega⟩ | exact ⟨by omega, by omega, by omega⟩ | exact Ow.divw64 (by omega) (by omega) | exact Or.inl ⟨by omega, by omega⟩ | exact Or.inr ⟨by omega, by omega⟩)

theorem gcd_abs {a b x y : Int} (hx : x = if a < 0 then -a else a) (hy : y = if b < 0 then -b else b) : Int.gcd x y = Int.gcd a b := by
  have e1 : x.natAbs = a.natAbs := by split at hx <;> omega
  have e2 : y.natAbs = b.natAbs := by split at hy <;> omega
  unfold Int.gcd; rw [e1, e2]
theorem gcd_step {a b r g : Int} (h : (Int.gcd a b : Int) = g) (h0 : 0 ≤ a) (h1 : 0 ≤ b) (hr : r = a % b) : (Int.gcd b r : Int) = g := by
  obtain ⟨m, rfl⟩ := Int.eq_ofNat_of_zero_le h0
  obtain ⟨n, rfl⟩ := Int.eq_ofNat_of_zero_le h1
  subst hr
  rw [← h]
  congr 1
  show Nat.gcd n (m % n) = Nat.gcd m n
  rw [Nat.gcd_comm m n, Nat.gcd_rec n m, Nat.gcd_comm]
theorem gcd_end {a b g : Int} (h : (Int.gcd a b : Int) = g) (h0 : 0 ≤ a) (hb : ¬ 0 < b) (h1 : 0 ≤ b) : a = g := by
  have : b = 0 := by omega
  subst this
  rw [← h, Int.gcd_zero]
  omega
theorem gcd_size {a b g : Int} {n : Nat} (hb : 0 < b) (hz : Sz n b) (hg : g = (Int.gcd a b : Int)) : 0 < g ∧ Sz n g := by
  have h0 : 0 < Int.gcd a b := Int.gcd_pos_iff.mpr (.inr (by omega))
  have h1 : g ≤ b := hg ▸ Int.le_of_dvd hb (Int.gcd_dvd_right ..)
  exact ⟨by omega, hz.le (by omega)⟩
/-- both by their greatest common divisor -/
theorem lows {t b g : Int} (hg : g = (Int.gcd t b : Int)) (hb : 0 < b) : 0 < g ∧ t = t / g * g ∧ b = b / g * g ∧ Int.gcd (t / g) (b / g) = 1 ∧ 0 < b / g := by
  have h0 : 0 < Int.gcd t b := Int.gcd_pos_iff.mpr (.inr (by omega))
  have g0 : 0 < g := by omega
  have d1 : g ∣ t := hg ▸ Int.gcd_dvd_left ..
  have d2 : g ∣ b := hg ▸ Int.gcd_dvd_right ..
  have e2 := Int.ediv_mul_cancel d2
  refine ⟨g0, (Int.ediv_mul_cancel d1).symm, e2.symm, ?_, ?_⟩
  · rw [Int.gcd_ediv d1 d2, hg, Int.natAbs_natCast, Nat.div_self h0]
  · by_cases h : 0 < b / g
    · exact h
    · have : b / g * g ≤ 0 := Int.mul_nonpos_of_nonpos_of_nonneg (by omega) (by omega)
      omega
theorem lowz {t b g c p q : Int} (hg : g = (Int.gcd t b : Int)) (hb : b ≠ 0) (hc : (0 < b ∧ c = g) ∨ (b < 0 ∧ c = 0 - g)) (hp : p = t.fdiv c) (hq : q = b.fdiv c) : p * b = t * q ∧ 0 < q ∧ Int.gcd p q = 1 ∧ p.natAbs ≤ t.natAbs ∧ q.natAbs ≤ b.natAbs := by
  have h0 : 0 < Int.gcd t b := Int.gcd_pos_iff.mpr (.inr hb)
  have g0 : 0 < g := by omega
  have d1 : g ∣ t := hg ▸ Int.gcd_dvd_left ..
  have d2 : g ∣ b := hg ▸ Int.gcd_dvd_right ..
  have c1 : c ∣ t := by rcases hc with ⟨_, rfl⟩ | ⟨_, rfl⟩; exact d1; rw [Int.zero_sub]; exact Int.neg_dvd.mpr d1
  have c2 : c ∣ b := by rcases hc with ⟨_, rfl⟩ | ⟨_, rfl⟩; exact d2; rw [Int.zero_sub]; exact Int.neg_dvd.mpr d2
  have e1 : p * c = t := by rw [hp]; exact Int.fdiv_mul_cancel c1
  have e2 : q * c = b := by rw [hq]; exact Int.fdiv_mul_cancel c2
  have cn : c.natAbs = Int.gcd t b := by omega
  have cp : 1 ≤ c.natAbs := by omega
  refine ⟨?_, ?_, ?_, by rw [← e1, Int.natAbs_mul]; exact Nat.le_mul_of_pos_right _ cp, by rw [← e2, Int.natAbs_mul]; exact Nat.le_mul_of_pos_right _ cp⟩
  · rw [← e1, ← e2, Int.mul_assoc p c q, Int.mul_comm c q]
  · rcases hc with ⟨h, e⟩ | ⟨h, e⟩
    · by_cases z : 0 < q
      · exact z
      · have : q * c ≤ 0 := Int.mul_nonpos_of_nonpos_of_nonneg (by omega) (by omega)
        omega
    · by_cases z : 0 < q
      · exact z
      · have : 0 ≤ q * c := Int.mul_nonneg_of_nonpos_of_nonpos (by omega) (by omega)
        omega
  · have e3 : Int.gcd t b = Int.gcd p q * c.natAbs := by rw [← e1, ← e2, Int.gcd_mul_right]
    rw [cn] at e3
    have := Nat.eq_of_mul_eq_mul_right h0 (show 1 * Int.gcd t b = Int.gcd p q * Int.gcd t b by omega)
    omega

theorem gcd_size0 {a b g : Int} {n : Nat} (hb : b ≠ 0) (hz : Sz n b) (hg : g = (Int.gcd a b : Int)) : 0 < g ∧ Sz n g := by
  have h0 : 0 < Int.gcd a b := Int.gcd_pos_iff.mpr (.inr hb)
  have h2 : Int.gcd a b = Int.gcd a b.natAbs := by simp [Int.gcd]
  have h1 : (Int.gcd a b.natAbs : Int) ≤ b.natAbs := Int.le_of_dvd (by omega) (Int.gcd_dvd_right ..)
  exact ⟨by omega, hz.le (by omega)⟩

def top (i : Nat) : Stmt := PySem.Challenge.pw_overwise_k12_sums_crosswise.main.body.getD i (.Pass ⟨0, 0, 0, 0⟩)
abbrev s_l_begun : Stmt := top 14
theorem sc_l_begun : FnScope ["_law_cell_here", "_law_rest"] ["_law_cell_here"] (defScope s_l_begun) := ⟨rfl, rfl, rfl, by decide +kernel, rfl, by decide +kernel, by decide +kernel⟩
abbrev s_l_draw : Stmt := top 15
theorem sc_l_draw : FnScope ["_law_state", "_law_many", "_law_found", "_law_number_here"] ["_law_state", "_law_many"] (defScope s_l_draw) := ⟨rfl, rfl, rfl, by decide +kernel, rfl, by decide +kernel, by decide +kernel⟩
abbrev s_l_number : Stmt := top 19
theorem sc_l_number : FnScope ["_law_state", "_law_far", "_law_way", "_law_number_here"] ["_law_state", "_law_far"] (defScope s_l_number) := ⟨rfl, rfl, rfl, by decide +kernel, rfl, by decide +kernel, by decide +kernel⟩
abbrev s_l_divisor : Stmt := top 17
theorem sc_l_divisor : FnScope ["_law_one", "_law_other"] ["_law_one", "_law_other"] (defScope s_l_divisor) := ⟨rfl, rfl, rfl, by decide +kernel, rfl, by decide +kernel, by decide +kernel⟩
abbrev s_l_fraction : Stmt := top 20
theorem sc_l_fraction : FnScope ["_law_state", "_law_far", "_law_top", "_law_bottom", "_law_by"] ["_law_state", "_law_far"] (defScope s_l_fraction) := ⟨rfl, rfl, rfl, by decide +kernel, rfl, by decide +kernel, by decide +kernel⟩
abbrev s_l_cell : Stmt := top 13
theorem sc_l_cell : FnScope ["_law_script", "_law_k", "_law_number_here"] ["_law_script", "_law_k"] (defScope s_l_cell) := ⟨rfl, rfl, rfl, by decide +kernel, rfl, by decide +kernel, by decide +kernel⟩
abbrev s_less : Stmt := top 11
theorem sc_less : FnScope ["one", "other"] ["one", "other"] (defScope s_less) := ⟨rfl, rfl, rfl, by decide +kernel, rfl, by decide +kernel, by decide +kernel⟩
abbrev s_l_whole : Stmt := top 16
theorem sc_l_whole : FnScope ["_law_found"] ["_law_found"] (defScope s_l_whole) := ⟨rfl, rfl, rfl, by decide +kernel, rfl, by decide +kernel, by decide +kernel⟩
abbrev s_l_is_fraction : Stmt := top 18
theorem sc_l_is_fraction : FnScope ["_law_found"] ["_law_found"] (defScope s_l_is_fraction) := ⟨rfl, rfl, rfl, by decide +kernel, rfl, by decide +kernel, by decide +kernel⟩
abbrev s_l_worth : Stmt := top 21
theorem sc_l_worth : FnScope ["_law_found", "_law_top", "_law_bottom"] ["_law_found", "_law_top", "_law_bottom"] (defScope s_l_worth) := ⟨rfl, rfl, rfl, by decide +kernel, rfl, by decide +kernel, by decide +kernel⟩
abbrev s_divisor_of : Stmt := top 5
theorem sc_divisor_of : FnScope ["one", "other"] ["one", "other"] (defScope s_divisor_of) := ⟨rfl, rfl, rfl, by decide +kernel, rfl, by decide +kernel, by decide +kernel⟩
abbrev s_lowest : Stmt := top 6
theorem sc_lowest : FnScope ["top", "bottom", "common"] ["top", "bottom"] (defScope s_lowest) := ⟨rfl, rfl, rfl, by decide +kernel, rfl, by decide +kernel, by decide +kernel⟩
abbrev s_NothingBy___init__ : Stmt := inClass (top 3) 0
theorem sc_NothingBy___init__ : FnScope ["self"] ["self"] (defScope s_NothingBy___init__) := ⟨rfl, rfl, rfl, by decide +kernel, rfl, by decide +kernel, by decide +kernel⟩
abbrev s_over : Stmt := top 10
theorem sc_over : FnScope ["one", "other"] ["one", "other"] (defScope s_over) := ⟨rfl, rfl, rfl, by decide +kernel, rfl, by decide +kernel, by decide +kernel⟩
abbrev s_l_over : Stmt := top 22
theorem sc_l_over : FnScope ["_law_one", "_law_other", "_law_found", "e"] ["_law_one", "_law_other"] (defScope s_l_over) := ⟨rfl, rfl, rfl, by decide +kernel, rfl, by decide +kernel, by decide +kernel⟩
abbrev s_plus : Stmt := top 7
theorem sc_plus : FnScope ["one", "other", "a", "b", "c", "d"] ["one", "other"] (defScope s_plus) := ⟨rfl, rfl, rfl, by decide +kernel, rfl, by decide +kernel, by decide +kernel⟩
abbrev s_minus : Stmt := top 8
theorem sc_minus : FnScope ["one", "other"] ["one", "other"] (defScope s_minus) := ⟨rfl, rfl, rfl, by decide +kernel, rfl, by decide +kernel, by decide +kernel⟩
abbrev s_times : Stmt := top 9
theorem sc_times : FnScope ["one", "other"] ["one", "other"] (defScope s_times) := ⟨rfl, rfl, rfl, by decide +kernel, rfl, by decide +kernel, by decide +kernel⟩
abbrev s_l_pair : Stmt := top 23
theorem sc_l_pair : FnScope ["_law_one", "_law_other", "_law_a", "_law_b", "_law_c", "_law_d", "_law_found"] ["_law_one", "_law_other"] (defScope s_l_pair) := ⟨rfl, rfl, rfl, by decide +kernel, rfl, by decide +kernel, by decide +kernel⟩
abbrev s_law : Stmt := top 24
theorem sc_law : FnScope ["_law_script", "_law_k", "_law_state", "_law_far", "_law_one", "_law_other", "_law_way"] ["_law_script"] (defScope s_law) := ⟨rfl, rfl, rfl, by decide +kernel, rfl, by decide +kernel, by decide +kernel⟩
structure Tx (K : PySem.W.Frag) (mg : Str → Option Value) : Type where
  w_WiseError : Ow.Bc K mg "WiseError"
  x_NoFraction : Ow.Xc K mg "NoFraction"
  x_NothingBy : Ow.Xc K mg "NothingBy"
  exm_NothingBy_WiseError : PySem.W.exmOne K (.ref x_NothingBy.C) (.ref w_WiseError.C) = some true
  kit_NothingBy_NoFraction : PySem.W.kitOne K (.ref x_NothingBy.C) (.ref x_NoFraction.C) = some false
  kit_NothingBy_NothingBy : PySem.W.kitOne K (.ref x_NothingBy.C) (.ref x_NothingBy.C) = some true
  d_l_begun : Ow.Dk K mg "_law_begun" "_law_begun" s_l_begun ["_law_cell_here"]
  d_l_draw : Ow.Dk K mg "_law_draw" "_law_draw" s_l_draw ["_law_state", "_law_many"]
  d_l_number : Ow.Dk K mg "_law_number" "_law_number" s_l_number ["_law_state", "_law_far"]
  d_l_divisor : Ow.Dk K mg "_law_divisor" "_law_divisor" s_l_divisor ["_law_one", "_law_other"]
  d_l_fraction : Ow.Dk K mg "_law_fraction" "_law_fraction" s_l_fraction ["_law_state", "_law_far"]
  d_l_cell : Ow.Dk K mg "_law_cell" "_law_cell" s_l_cell ["_law_script", "_law_k"]
  d_less : Ow.Dk K mg "less" "less" s_less ["one", "other"]
  d_l_whole : Ow.Dk K mg "_law_whole" "_law_whole" s_l_whole ["_law_found"]
  d_l_is_fraction : Ow.Dk K mg "_law_is_fraction" "_law_is_fraction" s_l_is_fraction ["_law_found"]
  d_l_worth : Ow.Dk K mg "_law_worth" "_law_worth" s_l_worth ["_law_found", "_law_top", "_law_bottom"]
  d_divisor_of : Ow.Dk K mg "divisor_of" "divisor_of" s_divisor_of ["one", "other"]
  d_lowest : Ow.Dk K mg "lowest" "lowest" s_lowest ["top", "bottom"]
  i_NothingBy : Ow.Xi K x_NothingBy.C "NothingBy.__init__" s_NothingBy___init__ ["self"]
  d_over : Ow.Dk K mg "over" "over" s_over ["one", "other"]
  d_l_over : Ow.Dk K mg "_law_over" "_law_over" s_l_over ["_law_one", "_law_other"]
  d_plus : Ow.Dk K mg "plus" "plus" s_plus ["one", "other"]
  d_minus : Ow.Dk K mg "minus" "minus" s_minus ["one", "other"]
  d_times : Ow.Dk K mg "times" "times" s_times ["one", "other"]
  d_l_pair : Ow.Dk K mg "_law_pair" "_law_pair" s_l_pair ["_law_one", "_law_other"]
  d_law : Ow.Dk K mg "law" "law" s_law ["_law_script"]
  z_abs : mg "abs" = none
  z_len : mg "len" = none
  z_isinstance : mg "isinstance" = none
  z_bool : mg "bool" = none
  z_int : mg "int" = none
  z_tuple : mg "tuple" = none
  z_range : mg "range" = none
  z_max : mg "max" = none
  z_min : mg "min" = none
def sp_l_begun {K : PySem.W.Frag} {mg : Str → Option Value} (T : Tx K mg) : Sp := fun vs H Q E => ∃ (cell : Int), vs = [.int cell] ∧ (∀ (a : Int), ∀ (n : Int), ∀ aq, H aq = none → Q (.ref aq) (upd H aq (.lst [.int (a), .int (0), .int (n)])))
def sp_l_draw {K : PySem.W.Frag} {mg : Str → Option Value} (T : Tx K mg) : Sp := fun vs H Q E => ∃ (box : Addr) (many : Int) (a : Int) (n : Int) (c : Int), vs = [.ref box, .int many] ∧ H box = some (.lst [.int (a), .int (n), .int (c)]) ∧ (0 < many) ∧ (many ≤ 18446744073709551616) ∧ (∀ (r : Int), ∀ (a2 : Int), ∀ (n2 : Int), (0 ≤ r) → (r < many) → Q (.int (r)) (upd H box (.lst [.int (a2), .int (n2), .int (c)])))
def sp_l_number {K : PySem.W.Frag} {mg : Str → Option Value} (T : Tx K mg) : Sp := fun vs H Q E => ∃ (box : Addr) (far : Int) (a : Int) (n : Int) (c : Int), vs = [.ref box, .int far] ∧ H box = some (.lst [.int (a), .int (n), .int (c)]) ∧ (1 ≤ far) ∧ (far ≤ 2291) ∧ (∀ (r : Int), ∀ (a2 : Int), ∀ (n2 : Int), (Ow.Sz 2340 r) → Q (.int (r)) (upd H box (.lst [.int (a2), .int (n2), .int (c)])))
def sp_l_divisor {K : PySem.W.Frag} {mg : Str → Option Value} (T : Tx K mg) : Sp := fun vs H Q E => ∃ (one : Int) (other : Int), vs = [.int one, .int other] ∧ (0 < other) ∧ Ow.Sz 8000 other ∧ (∀ (g : Int), (g = (Int.gcd one other : Int)) → (0 < g) → (Ow.Sz 8000 g) → Q (.int (g)) H)
def sp_l_fraction {K : PySem.W.Frag} {mg : Str → Option Value} (T : Tx K mg) : Sp := fun vs H Q E => ∃ (box : Addr) (far : Int) (a : Int) (n : Int) (c : Int), vs = [.ref box, .int far] ∧ H box = some (.lst [.int (a), .int (n), .int (c)]) ∧ (1 ≤ far) ∧ (far ≤ 2291) ∧ (∀ (t : Int), ∀ (b : Int), ∀ (a2 : Int), ∀ (n2 : Int), (Ow.Sz 2340 t) → (0 < b) → (Ow.Sz 2340 b) → ∀ aq H', Ow.Fm box H H' → H' box = some (.lst [.int (a2), .int (n2), .int (c)]) → H aq = none → H' aq = some (.tup [.int (t), .int (b)]) → Q (.ref aq) H')
def sp_l_cell {K : PySem.W.Frag} {mg : Str → Option Value} (T : Tx K mg) : Sp := fun vs H Q E => ∃ (script : Addr) (k : Int) (ns : List Int), vs = [.ref script, .int k] ∧ SqL K H script (ns.map V.int) ∧ (0 ≤ k) ∧ (k < 100) ∧ (∀ (x : Int), Q (.int (x)) H)
def sp_less {K : PySem.W.Frag} {mg : Str → Option Value} (T : Tx K mg) : Sp := fun vs H Q E => ∃ (one : Addr) (other : Addr) (a : Int) (b : Int) (c : Int) (d : Int), vs = [.ref one, .ref other] ∧ H one = some (.tup [.int (a), .int (b)]) ∧ (0 < b) ∧ Ow.Sz 2400 a ∧ Ow.Sz 2400 b ∧ H other = some (.tup [.int (c), .int (d)]) ∧ (0 < d) ∧ Ow.Sz 2400 c ∧ Ow.Sz 2400 d ∧ (Q (.bl (decide (a * d < c * b))) H)
def sp_l_whole {K : PySem.W.Frag} {mg : Str → Option Value} (T : Tx K mg) : Sp := fun vs H Q E => ∃ (found : Int), vs = [.int found] ∧ (Q (.bl (true)) H)
def sp_l_is_fraction {K : PySem.W.Frag} {mg : Str → Option Value} (T : Tx K mg) : Sp := fun vs H Q E => ∃ (found : Addr) (t : Int) (b : Int), vs = [.ref found] ∧ H found = some (.tup [.int (t), .int (b)]) ∧ (0 < b) ∧ Ow.Sz 8000 b ∧ (Int.gcd t b = 1) ∧ (Q (.bl (true)) H)
def sp_l_worth {K : PySem.W.Frag} {mg : Str → Option Value} (T : Tx K mg) : Sp := fun vs H Q E => ∃ (found : Addr) (top : Int) (bottom : Int) (p : Int) (q : Int), vs = [.ref found, .int top, .int bottom] ∧ H found = some (.tup [.int (p), .int (q)]) ∧ Ow.Sz 8000 top ∧ Ow.Sz 8000 bottom ∧ (p * bottom = top * q) ∧ (0 < q) ∧ (Int.gcd p q = 1) ∧ Ow.Sz 8000 p ∧ Ow.Sz 8000 q ∧ (Q (.bl (true)) H)
def sp_divisor_of {K : PySem.W.Frag} {mg : Str → Option Value} (T : Tx K mg) : Sp := fun vs H Q E => ∃ (one : Int) (other : Int), vs = [.int one, .int other] ∧ (other ≠ 0) ∧ Ow.Sz 8000 other ∧ (∀ (g : Int), (g = (Int.gcd one other : Int)) → (0 < g) → (Ow.Sz 8000 g) → Q (.int (g)) H)
def sp_lowest {K : PySem.W.Frag} {mg : Str → Option Value} (T : Tx K mg) : Sp := fun vs H Q E => ∃ (top : Int) (bottom : Int), vs = [.int top, .int bottom] ∧ (bottom ≠ 0) ∧ Ow.Sz 8000 bottom ∧ Ow.Sz 8000 top ∧ (∀ (p : Int), ∀ (q : Int), (p * (bottom) = (top) * q) → (0 < q) → (Int.gcd p q = 1) → (Ow.Sz 8000 p) → (Ow.Sz 8000 q) → ∀ aq H', Same H H' → H aq = none → H' aq = some (.tup [.int (p), .int (q)]) → Q (.ref aq) H')
def sp_NothingBy___init__ {K : PySem.W.Frag} {mg : Str → Option Value} (T : Tx K mg) : Sp := fun vs H Q E => ∃ (self : Addr), vs = [.ref self] ∧ H self = some (exo self T.x_NothingBy.C none) ∧ (Q (.non) H)
def sp_over {K : PySem.W.Frag} {mg : Str → Option Value} (T : Tx K mg) : Sp := fun vs H Q E => ∃ (one : Addr) (other : Addr) (a : Int) (b : Int) (c : Int) (d : Int), vs = [.ref one, .ref other] ∧ H one = some (.tup [.int (a), .int (b)]) ∧ (0 < b) ∧ Ow.Sz 2400 a ∧ Ow.Sz 2400 b ∧ H other = some (.tup [.int (c), .int (d)]) ∧ (0 < d) ∧ Ow.Sz 2400 c ∧ Ow.Sz 2400 d ∧ ((c = 0) → ∀ H', Same H H' → E (.ref T.x_NothingBy.C) none H') ∧ ((c ≠ 0) → ∀ (p : Int), ∀ (q : Int), (p * (b * c) = (a * d) * q) → (0 < q) → (Int.gcd p q = 1) → (Ow.Sz 8000 p) → (Ow.Sz 8000 q) → ∀ aq H', Same H H' → H aq = none → H' aq = some (.tup [.int (p), .int (q)]) → Q (.ref aq) H')
def sp_l_over {K : PySem.W.Frag} {mg : Str → Option Value} (T : Tx K mg) : Sp := fun vs H Q E => ∃ (one : Addr) (other : Addr) (a : Int) (b : Int) (c : Int) (d : Int), vs = [.ref one, .ref other] ∧ H one = some (.tup [.int (a), .int (b)]) ∧ (0 < b) ∧ Ow.Sz 2400 a ∧ Ow.Sz 2400 b ∧ H other = some (.tup [.int (c), .int (d)]) ∧ (0 < d) ∧ Ow.Sz 2400 c ∧ Ow.Sz 2400 d ∧ (∀ H', Same H H' → Q (.bl (true)) H')
def sp_plus {K : PySem.W.Frag} {mg : Str → Option Value} (T : Tx K mg) : Sp := fun vs H Q E => ∃ (one : Addr) (other : Addr) (a : Int) (b : Int) (c : Int) (d : Int), vs = [.ref one, .ref other] ∧ H one = some (.tup [.int (a), .int (b)]) ∧ (0 < b) ∧ Ow.Sz 2410 a ∧ Ow.Sz 2410 b ∧ H other = some (.tup [.int (c), .int (d)]) ∧ (0 < d) ∧ Ow.Sz 2410 c ∧ Ow.Sz 2410 d ∧ (∀ (p : Int), ∀ (q : Int), (p * (b * d) = (a * d + c * b) * q) → (0 < q) → (Int.gcd p q = 1) → (Ow.Sz 8000 p) → (Ow.Sz 8000 q) → ∀ aq H', Same H H' → H aq = none → H' aq = some (.tup [.int (p), .int (q)]) → Q (.ref aq) H')
def sp_minus {K : PySem.W.Frag} {mg : Str → Option Value} (T : Tx K mg) : Sp := fun vs H Q E => ∃ (one : Addr) (other : Addr) (a : Int) (b : Int) (c : Int) (d : Int), vs = [.ref one, .ref other] ∧ H one = some (.tup [.int (a), .int (b)]) ∧ (0 < b) ∧ Ow.Sz 2400 a ∧ Ow.Sz 2400 b ∧ H other = some (.tup [.int (c), .int (d)]) ∧ (0 < d) ∧ Ow.Sz 2400 c ∧ Ow.Sz 2400 d ∧ (∀ (p : Int), ∀ (q : Int), (p * (b * d) = (a * d - c * b) * q) → (0 < q) → (Int.gcd p q = 1) → (Ow.Sz 8000 p) → (Ow.Sz 8000 q) → ∀ aq H', Same H H' → H aq = none → H' aq = some (.tup [.int (p), .int (q)]) → Q (.ref aq) H')
def sp_times {K : PySem.W.Frag} {mg : Str → Option Value} (T : Tx K mg) : Sp := fun vs H Q E => ∃ (one : Addr) (other : Addr) (a : Int) (b : Int) (c : Int) (d : Int), vs = [.ref one, .ref other] ∧ H one = some (.tup [.int (a), .int (b)]) ∧ (0 < b) ∧ Ow.Sz 2400 a ∧ Ow.Sz 2400 b ∧ H other = some (.tup [.int (c), .int (d)]) ∧ (0 < d) ∧ Ow.Sz 2400 c ∧ Ow.Sz 2400 d ∧ (∀ (p : Int), ∀ (q : Int), (p * (b * d) = (a * c) * q) → (0 < q) → (Int.gcd p q = 1) → (Ow.Sz 8000 p) → (Ow.Sz 8000 q) → ∀ aq H', Same H H' → H aq = none → H' aq = some (.tup [.int (p), .int (q)]) → Q (.ref aq) H')
def sp_l_pair {K : PySem.W.Frag} {mg : Str → Option Value} (T : Tx K mg) : Sp := fun vs H Q E => ∃ (one : Addr) (other : Addr) (a : Int) (b : Int) (c : Int) (d : Int), vs = [.ref one, .ref other] ∧ H one = some (.tup [.int (a), .int (b)]) ∧ (0 < b) ∧ Ow.Sz 2400 a ∧ Ow.Sz 2400 b ∧ H other = some (.tup [.int (c), .int (d)]) ∧ (0 < d) ∧ Ow.Sz 2400 c ∧ Ow.Sz 2400 d ∧ (∀ H', Same H H' → Q (.bl (true)) H')
def sp_law (K : PySem.W.Frag) : Sp := fun vs H Q E => ∃ (script : Addr) (ns : List Int), vs = [.ref script] ∧ SqL K H script (ns.map V.int) ∧ (ns.length ≤ 63) ∧ (∀ H', Same H H' → Q (.bl (true)) H')
section
variable {P : Program} {w : World} {K : PySem.W.Frag} {mg : Str → Option Value} {base : Heap}
theorem ok_l_begun (T : Tx K mg) : FnOk P w K mg base CX0 1 T.d_l_begun.f T.d_l_begun.fd ["_law_cell_here"] (sp_l_begun T) := by
  refine T.d_l_begun.F.ok sc_l_begun (fun vs H Q E h => ?_) (fun cdv A outer s H vs Q E hr h => ?_)
  · obtain ⟨cell, rfl, _⟩ := h
    rfl
  · obtain ⟨cell, rfl, kont⟩ := h
    refine ⟨_, (pss_cons (ps_set (i := 1) sc_l_begun.nd rfl (Or.inl rfl) pe_int)
        (pss_cons (ps_if (pt_cmpR op_ge (pv 0) (Ow.pe_lit (1000000000000000000) (pe_op op_pow pe_int pe_int)) (nomark _)) (pss_one (ps_set (i := 1) sc_l_begun.nd rfl (Or.inl rfl) (pv 0))) pss_nil)
        (pss_one (ps_ret (pe_lst (pa_cons (pv 1) (pa_cons pe_int (pa_cons (pe_op Ow.op_modN (pv 0) pe_int) pa_nil)))))))), ?_⟩
    refine ⟨_, rfl, ?_⟩
    refine ⟨_, _, rfl, rfl, ⟨by decide, by decide, by decide⟩, ?_⟩
    refine ⟨by decide, ?_⟩
    refine ⟨_, _, rfl, rfl, ?_⟩
    refine ⟨_, rfl, ?_⟩
    refine Ow.ifd (fun h1 => ?_) (fun h1 => ?_)
    · refine ⟨_, rfl, ?_⟩
      refine ⟨_, rfl, ?_⟩
      refine ⟨_, rfl, ?_⟩
      refine ⟨_, _, rfl, rfl, (by first | assumption | exact Ow.divw64 (by omega) (by omega) | exact Ow.mul0 ⟨by omega, by omega⟩ | exact Ow.mul1 ⟨by omega, by omega⟩ | exact Ow.shl0 (by omega) (by omega) (by omega) | exact ⟨by omega, by omega⟩ | exact ⟨by omega, by omega, by omega⟩ | omega | (simp only [List.length_append, List.length_cons, List.length_nil]; omega) | (subst_vars; omega)), fun r h_r h0_r h1_r => ?_⟩
      refine ⟨by show 3 ≤ sizeLine; decide, fun p h_p => ?_⟩
      exact kont cell r _ h_p
    · refine ⟨_, rfl, ?_⟩
      refine ⟨_, rfl, ?_⟩
      refine ⟨_, _, rfl, rfl, (by first | assumption | exact Ow.divw64 (by omega) (by omega) | exact Ow.mul0 ⟨by omega, by omega⟩ | exact Ow.mul1 ⟨by omega, by omega⟩ | exact Ow.shl0 (by omega) (by omega) (by omega) | exact ⟨by omega, by omega⟩ | exact ⟨by omega, by omega, by omega⟩ | omega | (simp only [List.length_append, List.length_cons, List.length_nil]; omega) | (subst_vars; omega)), fun r_2 h_r_2 h0_r_2 h1_r_2 => ?_⟩
      refine ⟨by show 3 ≤ sizeLine; decide, fun p_2 h_p_2 => ?_⟩
      exact kont 0 r_2 _ h_p_2
theorem ok_l_draw (T : Tx K mg) : FnOk P w K mg base CX0 1 T.d_l_draw.f T.d_l_draw.fd ["_law_state", "_law_many"] (sp_l_draw T) := by
  refine T.d_l_draw.F.ok sc_l_draw (fun vs H Q E h => ?_) (fun cdv A outer s H vs Q E hr h => ?_)
  · obtain ⟨box, many, a, n, c, rfl, _⟩ := h
    rfl
  · obtain ⟨box, many, a, n, c, rfl, c0, c1, c2, kont⟩ := h
    refine ⟨_, (pss_cons (ps_if (pt_cmpR op_gt (pe_ix ix_list (pv 0) pe_int (fun _ _ => rfl)) pe_int (nomark _)) (pss_cons (ps_set (i := 2) sc_l_draw.nd rfl (Or.inl rfl) (pe_op Ow.op_modN (pe_ix ix_list (pv 0) pe_int (fun _ _ => rfl)) (pv 1)))
        (pss_cons (ps_asg (pe_op Ow.op_divN (pe_ix ix_list (pv 0) pe_int (fun _ _ => rfl)) (pv 1)) (pg_sub (pv 0) pe_int set_list))
        (pss_one (ps_ret (pv 2))))) pss_nil)
        (pss_cons (ps_asg (Ow.pe_nmi (pe_op op_add (pe_ix ix_list (pv 0) pe_int (fun _ _ => rfl)) pe_int)) (pg_sub (pv 0) pe_int set_list))
        (pss_cons (ps_set (i := 3) sc_l_draw.nd rfl (Or.inl rfl) (pe_op Ow.op_modN (pe_op op_add (pe_op Ow.op_mulN (pe_ix ix_list (pv 0) pe_int (fun _ _ => rfl)) pe_int) (pe_op Ow.op_mulN (pe_ix ix_list (pv 0) pe_int (fun _ _ => rfl)) pe_int)) pe_int))
        (pss_cons (ps_set (i := 3) sc_l_draw.nd rfl (Or.inl rfl) (pe_op Ow.op_modN (pe_op op_add (pe_op Ow.op_mulN (pv 3) (pv 3)) (pe_op Ow.op_mulN (pe_ix ix_list (pv 0) pe_int (fun _ _ => rfl)) pe_int)) pe_int))
        (pss_one (ps_ret (pe_op Ow.op_modN (pe_op Ow.op_modN (pe_op Ow.op_mulN (pv 3) (pv 3)) pe_int) (pv 1)))))))), ?_⟩
    refine ⟨_, rfl, ?_⟩
    refine ⟨_, _, _, _, rfl, rfl, (SqL.of c0), (by first | rfl | decide), ?_⟩
    refine ⟨_, _, rfl, rfl, ?_⟩
    refine ⟨_, rfl, ?_⟩
    refine Ow.ifd (fun h1 => ?_) (fun h1 => ?_)
    · refine ⟨_, rfl, ?_⟩
      refine ⟨_, _, _, _, rfl, rfl, (SqL.of c0), (by first | rfl | decide), ?_⟩
      refine ⟨_, rfl, ?_⟩
      refine ⟨_, _, rfl, rfl, (by first | assumption | exact Ow.divw64 (by omega) (by omega) | exact Ow.mul0 ⟨by omega, by omega⟩ | exact Ow.mul1 ⟨by omega, by omega⟩ | exact Ow.shl0 (by omega) (by omega) (by omega) | exact ⟨by omega, by omega⟩ | exact ⟨by omega, by omega, by omega⟩ | omega | (simp only [List.length_append, List.length_cons, List.length_nil]; omega) | (subst_vars; omega)), fun l_found h_l_found h0_l_found h1_l_found => ?_⟩
      refine ⟨_, rfl, ?_⟩
      refine ⟨_, _, _, _, rfl, rfl, (SqL.of c0), (by first | rfl | decide), ?_⟩
      refine ⟨_, rfl, ?_⟩
      refine ⟨_, _, rfl, rfl, (by first | assumption | exact Ow.divw64 (by omega) (by omega) | exact Ow.mul0 ⟨by omega, by omega⟩ | exact Ow.mul1 ⟨by omega, by omega⟩ | exact Ow.shl0 (by omega) (by omega) (by omega) | exact ⟨by omega, by omega⟩ | exact ⟨by omega, by omega, by omega⟩ | omega | (simp only [List.length_append, List.length_cons, List.length_nil]; omega) | (subst_vars; omega)), fun q h_q => ?_⟩
      refine ⟨_, rfl, ?_⟩
      refine ⟨_, _, _, 0, rfl, rfl, c0, rfl, ?_⟩
      refine ⟨_, rfl, ?_⟩
      exact kont l_found q n (by first | assumption | exact Ow.divw64 (by omega) (by omega) | exact Ow.mul0 ⟨by omega, by omega⟩ | exact Ow.mul1 ⟨by omega, by omega⟩ | exact Ow.shl0 (by omega) (by omega) (by omega) | exact ⟨by omega, by omega⟩ | exact ⟨by omega, by omega, by omega⟩ | omega | (simp only [List.length_append, List.length_cons, List.length_nil]; omega) | (subst_vars; omega)) (by first | assumption | exact Ow.divw64 (by omega) (by omega) | exact Ow.mul0 ⟨by omega, by omega⟩ | exact Ow.mul1 ⟨by omega, by omega⟩ | exact Ow.shl0 (by omega) (by omega) (by omega) | exact ⟨by omega, by omega⟩ | exact ⟨by omega, by omega, by omega⟩ | omega | (simp only [List.length_append, List.length_cons, List.length_nil]; omega) | (subst_vars; omega))
    · refine ⟨_, rfl, ?_⟩
      refine ⟨_, _, _, _, rfl, rfl, (SqL.of c0), (by first | rfl | decide), ?_⟩
      refine ⟨_, _, rfl, rfl, ?_⟩
      refine ⟨_, rfl, fun t h_t => ?_⟩
      refine ⟨_, rfl, ?_⟩
      refine ⟨_, _, _, 1, rfl, rfl, c0, rfl, ?_⟩
      refine ⟨_, rfl, ?_⟩
      refine ⟨_, _, _, _, rfl, rfl, (SqL.of upd_same), (by first | rfl | decide), ?_⟩
      refine ⟨_, _, rfl, rfl, (by first | assumption | exact Ow.divw64 (by omega) (by omega) | exact Ow.mul0 ⟨by omega, by omega⟩ | exact Ow.mul1 ⟨by omega, by omega⟩ | exact Ow.shl0 (by omega) (by omega) (by omega) | exact ⟨by omega, by omega⟩ | exact ⟨by omega, by omega, by omega⟩ | omega | (simp only [List.length_append, List.length_cons, List.length_nil]; omega) | (subst_vars; omega)), fun m h_m => ?_⟩
      refine ⟨_, rfl, ?_⟩
      refine ⟨_, _, _, _, rfl, rfl, (SqL.of upd_same), (by first | rfl | decide), ?_⟩
      refine ⟨_, _, rfl, rfl, (by first | assumption | exact Ow.divw64 (by omega) (by omega) | exact Ow.mul0 ⟨by omega, by omega⟩ | exact Ow.mul1 ⟨by omega, by omega⟩ | exact Ow.shl0 (by omega) (by omega) (by omega) | exact ⟨by omega, by omega⟩ | exact ⟨by omega, by omega, by omega⟩ | omega | (simp only [List.length_append, List.length_cons, List.length_nil]; omega) | (subst_vars; omega)), fun m_2 h_m_2 => ?_⟩
      refine ⟨_, _, rfl, rfl, ?_⟩
      refine ⟨_, _, rfl, rfl, (by first | assumption | exact Ow.divw64 (by omega) (by omega) | exact Ow.mul0 ⟨by omega, by omega⟩ | exact Ow.mul1 ⟨by omega, by omega⟩ | exact Ow.shl0 (by omega) (by omega) (by omega) | exact ⟨by omega, by omega⟩ | exact ⟨by omega, by omega, by omega⟩ | omega | (simp only [List.length_append, List.length_cons, List.length_nil]; omega) | (subst_vars; omega)), fun l_number_here h_l_number_here h0_l_number_here h1_l_number_here => ?_⟩
      refine ⟨_, rfl, ?_⟩
      refine ⟨_, rfl, ?_⟩
      refine ⟨_, _, rfl, rfl, (.inr (Ow.mulx (Ow.Sz.md h0_l_number_here h1_l_number_here (Ow.Sz.lit (n := 31) (i := 2147483647) (by decide))) (Ow.Sz.md h0_l_number_here h1_l_number_here (Ow.Sz.lit (n := 31) (i := 2147483647) (by decide))) (by decide))), fun m_3 h_m_3 => ?_⟩
      have z_m_3 : Ow.Sz 62 m_3 := by rw [h_m_3]; exact (Ow.Sz.mul (Ow.Sz.md h0_l_number_here h1_l_number_here (Ow.Sz.lit (n := 31) (i := 2147483647) (by decide))) (Ow.Sz.md h0_l_number_here h1_l_number_here (Ow.Sz.lit (n := 31) (i := 2147483647) (by decide))))
      refine ⟨_, rfl, ?_⟩
      refine ⟨_, _, _, _, rfl, rfl, (SqL.of upd_same), (by first | rfl | decide), ?_⟩
      refine ⟨_, _, rfl, rfl, (by first | assumption | exact Ow.divw64 (by omega) (by omega) | exact Ow.mul0 ⟨by omega, by omega⟩ | exact Ow.mul1 ⟨by omega, by omega⟩ | exact Ow.shl0 (by omega) (by omega) (by omega) | exact ⟨by omega, by omega⟩ | exact ⟨by omega, by omega, by omega⟩ | omega | (simp only [List.length_append, List.length_cons, List.length_nil]; omega) | (subst_vars; omega)), fun m_4 h_m_4 => ?_⟩
      refine ⟨_, _, rfl, rfl, ?_⟩
      refine ⟨_, _, rfl, rfl, (by first | assumption | exact Ow.divw64 (by omega) (by omega) | exact Ow.mul0 ⟨by omega, by omega⟩ | exact Ow.mul1 ⟨by omega, by omega⟩ | exact Ow.shl0 (by omega) (by omega) (by omega) | exact ⟨by omega, by omega⟩ | exact ⟨by omega, by omega, by omega⟩ | omega | (simp only [List.length_append, List.length_cons, List.length_nil]; omega) | (subst_vars; omega)), fun l_number_here_2 h_l_number_here_2 h0_l_number_here_2 h1_l_number_here_2 => ?_⟩
      refine ⟨_, rfl, ?_⟩
      refine ⟨_, rfl, ?_⟩
      refine ⟨_, _, rfl, rfl, (.inr (Ow.mulx (Ow.Sz.md h0_l_number_here_2 h1_l_number_here_2 (Ow.Sz.lit (n := 31) (i := 2147483629) (by decide))) (Ow.Sz.md h0_l_number_here_2 h1_l_number_here_2 (Ow.Sz.lit (n := 31) (i := 2147483629) (by decide))) (by decide))), fun m_5 h_m_5 => ?_⟩
      have z_m_5 : Ow.Sz 62 m_5 := by rw [h_m_5]; exact (Ow.Sz.mul (Ow.Sz.md h0_l_number_here_2 h1_l_number_here_2 (Ow.Sz.lit (n := 31) (i := 2147483629) (by decide))) (Ow.Sz.md h0_l_number_here_2 h1_l_number_here_2 (Ow.Sz.lit (n := 31) (i := 2147483629) (by decide))))
      refine ⟨_, _, rfl, rfl, (by first | assumption | exact Ow.divw64 (by omega) (by omega) | exact Ow.mul0 ⟨by omega, by omega⟩ | exact Ow.mul1 ⟨by omega, by omega⟩ | exact Ow.shl0 (by omega) (by omega) (by omega) | exact ⟨by omega, by omega⟩ | exact ⟨by omega, by omega, by omega⟩ | omega | (simp only [List.length_append, List.length_cons, List.length_nil]; omega) | (subst_vars; omega)), fun r h_r h0_r h1_r => ?_⟩
      refine ⟨_, rfl, ?_⟩
      refine ⟨_, _, rfl, rfl, (by first | assumption | exact Ow.divw64 (by omega) (by omega) | exact Ow.mul0 ⟨by omega, by omega⟩ | exact Ow.mul1 ⟨by omega, by omega⟩ | exact Ow.shl0 (by omega) (by omega) (by omega) | exact ⟨by omega, by omega⟩ | exact ⟨by omega, by omega, by omega⟩ | omega | (simp only [List.length_append, List.length_cons, List.length_nil]; omega) | (subst_vars; omega)), fun r_2 h_r_2 h0_r_2 h1_r_2 => ?_⟩
      exact kont r_2 a t (by first | assumption | exact Ow.divw64 (by omega) (by omega) | exact Ow.mul0 ⟨by omega, by omega⟩ | exact Ow.mul1 ⟨by omega, by omega⟩ | exact Ow.shl0 (by omega) (by omega) (by omega) | exact ⟨by omega, by omega⟩ | exact ⟨by omega, by omega, by omega⟩ | omega | (simp only [List.length_append, List.length_cons, List.length_nil]; omega) | (subst_vars; omega)) (by first | assumption | exact Ow.divw64 (by omega) (by omega) | exact Ow.mul0 ⟨by omega, by omega⟩ | exact Ow.mul1 ⟨by omega, by omega⟩ | exact Ow.shl0 (by omega) (by omega) (by omega) | exact ⟨by omega, by omega⟩ | exact ⟨by omega, by omega, by omega⟩ | omega | (simp only [List.length_append, List.length_cons, List.length_nil]; omega) | (subst_vars; omega))
theorem ok_l_number (T : Tx K mg) : FnOk P w K mg base CX0 2 T.d_l_number.f T.d_l_number.fd ["_law_state", "_law_far"] (sp_l_number T) := by
  refine T.d_l_number.F.ok sc_l_number (fun vs H Q E h => ?_) (fun cdv A outer s H vs Q E hr h => ?_)
  · obtain ⟨box, far, a, n, c, rfl, _⟩ := h
    rfl
  · obtain ⟨box, far, a, n, c, rfl, c0, c1, c2, kont⟩ := h
    refine ⟨_, (pss_cons (ps_set (i := 2) sc_l_number.nd rfl (Or.inl rfl) (pe_call (Ow.ok_l_draw T) (hr.mono (by decide : 1 ≤ 1)) (by rfl) T.d_l_draw.m T.d_l_draw.F.kp T.d_l_draw.b .nil pass0 (pa_cons (pv 0) (pa_cons pe_int pa_nil))))
        (pss_cons (ps_if (pt_cmpR op_eq (pv 2) pe_int (nomark _)) (pss_one (ps_set (i := 3) sc_l_number.nd rfl (Or.inl rfl) (pe_call (Ow.ok_l_draw T) (hr.mono (by decide : 1 ≤ 1)) (by rfl) T.d_l_draw.m T.d_l_draw.F.kp T.d_l_draw.b .nil pass0 (pa_cons (pv 0) (pa_cons pe_int pa_nil))))) (pss_one (ps_if (pt_cmpR op_eq (pv 2) pe_int (nomark _)) (pss_one (ps_set (i := 3) sc_l_number.nd rfl (Or.inl rfl) (Ow.pe_nmi (pe_op op_add (pe_op Ow.op_mulN (pe_call (Ow.ok_l_draw T) (hr.mono (by decide : 1 ≤ 1)) (by rfl) T.d_l_draw.m T.d_l_draw.F.kp T.d_l_draw.b .nil pass0 (pa_cons (pv 0) (pa_cons pe_int pa_nil))) (Ow.pe_lit (1000000000) (pe_op op_pow pe_int pe_int))) (pe_call (Ow.ok_l_draw T) (hr.mono (by decide : 1 ≤ 1)) (by rfl) T.d_l_draw.m T.d_l_draw.F.kp T.d_l_draw.b .nil pass0 (pa_cons (pv 0) (pa_cons pe_int pa_nil))))))) (pss_one (ps_if (pt_cmpR op_eq (pv 2) pe_int (nomark _)) (pss_one (ps_set (i := 3) sc_l_number.nd rfl (Or.inl rfl) (Ow.pe_nmi (pe_op op_add (pe_op Ow.op_shlN (pe_call (Ow.ok_l_draw T) (hr.mono (by decide : 1 ≤ 1)) (by rfl) T.d_l_draw.m T.d_l_draw.F.kp T.d_l_draw.b .nil pass0 (pa_cons (pv 0) (pa_cons pe_int pa_nil))) (pe_call (Ow.ok_l_draw T) (hr.mono (by decide : 1 ≤ 1)) (by rfl) T.d_l_draw.m T.d_l_draw.F.kp T.d_l_draw.b .nil pass0 (pa_cons (pv 0) (pa_cons (pv 1) pa_nil)))) (pe_call (Ow.ok_l_draw T) (hr.mono (by decide : 1 ≤ 1)) (by rfl) T.d_l_draw.m T.d_l_draw.F.kp T.d_l_draw.b .nil pass0 (pa_cons (pv 0) (pa_cons pe_int pa_nil))))))) (pss_one (ps_set (i := 3) sc_l_number.nd rfl (Or.inl rfl) (pe_call (Ow.ok_l_draw T) (hr.mono (by decide : 1 ≤ 1)) (by rfl) T.d_l_draw.m T.d_l_draw.F.kp T.d_l_draw.b .nil pass0 (pa_cons (pv 0) (pa_cons pe_int pa_nil))))))))))
        (pss_cons (ps_if (pt_cmpR op_eq (pe_call (Ow.ok_l_draw T) (hr.mono (by decide : 1 ≤ 1)) (by rfl) T.d_l_draw.m T.d_l_draw.F.kp T.d_l_draw.b .nil pass0 (pa_cons (pv 0) (pa_cons pe_int pa_nil))) pe_int (nomark _)) (pss_one (ps_set (i := 3) sc_l_number.nd rfl (Or.inl rfl) (Ow.pe_nmi (pe_op op_sub pe_int (pv 3))))) pss_nil)
        (pss_one (ps_ret (pv 3)))))), ?_⟩
    refine ⟨_, rfl, ?_⟩
    refine ⟨_, _, _, _, _, rfl, c0, (by first | assumption | exact Ow.divw64 (by omega) (by omega) | exact Ow.mul0 ⟨by omega, by omega⟩ | exact Ow.mul1 ⟨by omega, by omega⟩ | exact Ow.shl0 (by omega) (by omega) (by omega) | exact ⟨by omega, by omega⟩ | exact ⟨by omega, by omega, by omega⟩ | omega | (simp only [List.length_append, List.length_cons, List.length_nil]; omega) | (subst_vars; omega)), (by first | assumption | exact Ow.divw64 (by omega) (by omega) | exact Ow.mul0 ⟨by omega, by omega⟩ | exact Ow.mul1 ⟨by omega, by omega⟩ | exact Ow.shl0 (by omega) (by omega) (by omega) | exact ⟨by omega, by omega⟩ | exact ⟨by omega, by omega, by omega⟩ | omega | (simp only [List.length_append, List.length_cons, List.length_nil]; omega) | (subst_vars; omega)), fun l_way a2 n2 h1 h2 => ?_⟩
    refine ⟨_, rfl, ?_⟩
    refine ⟨rfl, ?_⟩
    refine ⟨_, rfl, ?_⟩
    refine Ow.ifeqi (fun h3 => ?_) (fun h3 => ?_)
    · refine ⟨_, rfl, ?_⟩
      refine ⟨_, _, _, _, _, rfl, upd_same, (by first | assumption | exact Ow.divw64 (by omega) (by omega) | exact Ow.mul0 ⟨by omega, by omega⟩ | exact Ow.mul1 ⟨by omega, by omega⟩ | exact Ow.shl0 (by omega) (by omega) (by omega) | exact ⟨by omega, by omega⟩ | exact ⟨by omega, by omega, by omega⟩ | omega | (simp only [List.length_append, List.length_cons, List.length_nil]; omega) | (subst_vars; omega)), (by first | assumption | exact Ow.divw64 (by omega) (by omega) | exact Ow.mul0 ⟨by omega, by omega⟩ | exact Ow.mul1 ⟨by omega, by omega⟩ | exact Ow.shl0 (by omega) (by omega) (by omega) | exact ⟨by omega, by omega⟩ | exact ⟨by omega, by omega, by omega⟩ | omega | (simp only [List.length_append, List.length_cons, List.length_nil]; omega) | (subst_vars; omega)), fun l_number_here a2_2 n2_2 h4 h5 => ?_⟩
      refine ⟨_, rfl, ?_⟩
      refine ⟨_, _, _, _, _, rfl, upd_same, (by first | assumption | exact Ow.divw64 (by omega) (by omega) | exact Ow.mul0 ⟨by omega, by omega⟩ | exact Ow.mul1 ⟨by omega, by omega⟩ | exact Ow.shl0 (by omega) (by omega) (by omega) | exact ⟨by omega, by omega⟩ | exact ⟨by omega, by omega, by omega⟩ | omega | (simp only [List.length_append, List.length_cons, List.length_nil]; omega) | (subst_vars; omega)), (by first | assumption | exact Ow.divw64 (by omega) (by omega) | exact Ow.mul0 ⟨by omega, by omega⟩ | exact Ow.mul1 ⟨by omega, by omega⟩ | exact Ow.shl0 (by omega) (by omega) (by omega) | exact ⟨by omega, by omega⟩ | exact ⟨by omega, by omega, by omega⟩ | omega | (simp only [List.length_append, List.length_cons, List.length_nil]; omega) | (subst_vars; omega)), fun t a2_3 n2_3 h6 h7 => ?_⟩
      refine ⟨rfl, ?_⟩
      refine ⟨_, rfl, ?_⟩
      refine Ow.ifeqi (fun h8 => ?_) (fun h8 => ?_)
      · refine ⟨_, rfl, ?_⟩
        refine ⟨_, _, rfl, rfl, ?_⟩
        refine ⟨_, rfl, fun l_number_here_2 h_l_number_here_2 => ?_⟩
        have z_l_number_here_2 : Ow.Sz 4 l_number_here_2 := by rw [h_l_number_here_2]; exact (Ow.Sz.sub (Ow.Sz.mono (Ow.Sz.lit (n := 1) (i := 0) (by decide)) (by decide : 1 ≤ 3)) (Ow.Sz.rng (n := 3) h4 h5 (by decide)))
        refine ⟨_, rfl, ?_⟩
        rw [upd_upd, upd_upd]
        exact kont l_number_here_2 a2_3 n2_3 (Ow.Sz.mono z_l_number_here_2 (by decide : 4 ≤ 2340))
      · refine ⟨_, rfl, ?_⟩
        rw [upd_upd, upd_upd]
        exact kont l_number_here a2_3 n2_3 (Ow.Sz.mono (Ow.Sz.rng (n := 3) h4 h5 (by decide)) (by decide : 3 ≤ 2340))
    · refine ⟨_, rfl, ?_⟩
      refine ⟨rfl, ?_⟩
      refine ⟨_, rfl, ?_⟩
      refine Ow.ifeqi (fun h9 => ?_) (fun h9 => ?_)
      · refine ⟨_, rfl, ?_⟩
        refine ⟨_, _, _, _, _, rfl, upd_same, (by first | assumption | exact Ow.divw64 (by omega) (by omega) | exact Ow.mul0 ⟨by omega, by omega⟩ | exact Ow.mul1 ⟨by omega, by omega⟩ | exact Ow.shl0 (by omega) (by omega) (by omega) | exact ⟨by omega, by omega⟩ | exact ⟨by omega, by omega, by omega⟩ | omega | (simp only [List.length_append, List.length_cons, List.length_nil]; omega) | (subst_vars; omega)), (by first | assumption | exact Ow.divw64 (by omega) (by omega) | exact Ow.mul0 ⟨by omega, by omega⟩ | exact Ow.mul1 ⟨by omega, by omega⟩ | exact Ow.shl0 (by omega) (by omega) (by omega) | exact ⟨by omega, by omega⟩ | exact ⟨by omega, by omega, by omega⟩ | omega | (simp only [List.length_append, List.length_cons, List.length_nil]; omega) | (subst_vars; omega)), fun t_2 a2_4 n2_4 h10 h11 => ?_⟩
        refine ⟨_, _, rfl, rfl, ⟨by decide, by decide, by decide⟩, ?_⟩
        refine ⟨by decide, ?_⟩
        refine ⟨_, _, rfl, rfl, (.inr (Ow.mulx (Ow.Sz.rng (n := 20) h10 h11 (by decide)) (Ow.Sz.lit (n := 30) (i := 1000000000) (by decide)) (by decide))), fun m h_m => ?_⟩
        have z_m : Ow.Sz 50 m := by rw [h_m]; exact (Ow.Sz.mul (Ow.Sz.rng (n := 20) h10 h11 (by decide)) (Ow.Sz.lit (n := 30) (i := 1000000000) (by decide)))
        refine ⟨_, rfl, ?_⟩
        refine ⟨_, _, _, _, _, rfl, upd_same, (by first | assumption | exact Ow.divw64 (by omega) (by omega) | exact Ow.mul0 ⟨by omega, by omega⟩ | exact Ow.mul1 ⟨by omega, by omega⟩ | exact Ow.shl0 (by omega) (by omega) (by omega) | exact ⟨by omega, by omega⟩ | exact ⟨by omega, by omega, by omega⟩ | omega | (simp only [List.length_append, List.length_cons, List.length_nil]; omega) | (subst_vars; omega)), (by first | assumption | exact Ow.divw64 (by omega) (by omega) | exact Ow.mul0 ⟨by omega, by omega⟩ | exact Ow.mul1 ⟨by omega, by omega⟩ | exact Ow.shl0 (by omega) (by omega) (by omega) | exact ⟨by omega, by omega⟩ | exact ⟨by omega, by omega, by omega⟩ | omega | (simp only [List.length_append, List.length_cons, List.length_nil]; omega) | (subst_vars; omega)), fun t_3 a2_5 n2_5 h12 h13 => ?_⟩
        refine ⟨_, _, rfl, rfl, ?_⟩
        refine ⟨_, rfl, fun l_number_here_3 h_l_number_here_3 => ?_⟩
        have z_l_number_here_3 : Ow.Sz 51 l_number_here_3 := by rw [h_l_number_here_3]; exact (Ow.Sz.add z_m (Ow.Sz.mono (Ow.Sz.rng (n := 30) h12 h13 (by decide)) (by decide : 30 ≤ 50)))
        refine ⟨_, rfl, ?_⟩
        refine ⟨_, _, _, _, _, rfl, upd_same, (by first | assumption | exact Ow.divw64 (by omega) (by omega) | exact Ow.mul0 ⟨by omega, by omega⟩ | exact Ow.mul1 ⟨by omega, by omega⟩ | exact Ow.shl0 (by omega) (by omega) (by omega) | exact ⟨by omega, by omega⟩ | exact ⟨by omega, by omega, by omega⟩ | omega | (simp only [List.length_append, List.length_cons, List.length_nil]; omega) | (subst_vars; omega)), (by first | assumption | exact Ow.divw64 (by omega) (by omega) | exact Ow.mul0 ⟨by omega, by omega⟩ | exact Ow.mul1 ⟨by omega, by omega⟩ | exact Ow.shl0 (by omega) (by omega) (by omega) | exact ⟨by omega, by omega⟩ | exact ⟨by omega, by omega, by omega⟩ | omega | (simp only [List.length_append, List.length_cons, List.length_nil]; omega) | (subst_vars; omega)), fun t_4 a2_6 n2_6 h14 h15 => ?_⟩
        refine ⟨rfl, ?_⟩
        refine ⟨_, rfl, ?_⟩
        refine Ow.ifeqi (fun h16 => ?_) (fun h16 => ?_)
        · refine ⟨_, rfl, ?_⟩
          refine ⟨_, _, rfl, rfl, ?_⟩
          refine ⟨_, rfl, fun l_number_here_4 h_l_number_here_4 => ?_⟩
          have z_l_number_here_4 : Ow.Sz 52 l_number_here_4 := by rw [h_l_number_here_4]; exact (Ow.Sz.sub (Ow.Sz.mono (Ow.Sz.lit (n := 1) (i := 0) (by decide)) (by decide : 1 ≤ 51)) z_l_number_here_3)
          refine ⟨_, rfl, ?_⟩
          rw [upd_upd, upd_upd, upd_upd]
          exact kont l_number_here_4 a2_6 n2_6 (Ow.Sz.mono z_l_number_here_4 (by decide : 52 ≤ 2340))
        · refine ⟨_, rfl, ?_⟩
          rw [upd_upd, upd_upd, upd_upd]
          exact kont l_number_here_3 a2_6 n2_6 (Ow.Sz.mono z_l_number_here_3 (by decide : 51 ≤ 2340))
      · refine ⟨_, rfl, ?_⟩
        refine ⟨rfl, ?_⟩
        refine ⟨_, rfl, ?_⟩
        refine Ow.ifeqi (fun h17 => ?_) (fun h17 => ?_)
        · refine ⟨_, rfl, ?_⟩
          refine ⟨_, _, _, _, _, rfl, upd_same, (by first | assumption | exact Ow.divw64 (by omega) (by omega) | exact Ow.mul0 ⟨by omega, by omega⟩ | exact Ow.mul1 ⟨by omega, by omega⟩ | exact Ow.shl0 (by omega) (by omega) (by omega) | exact ⟨by omega, by omega⟩ | exact ⟨by omega, by omega, by omega⟩ | omega | (simp only [List.length_append, List.length_cons, List.length_nil]; omega) | (subst_vars; omega)), (by first | assumption | exact Ow.divw64 (by omega) (by omega) | exact Ow.mul0 ⟨by omega, by omega⟩ | exact Ow.mul1 ⟨by omega, by omega⟩ | exact Ow.shl0 (by omega) (by omega) (by omega) | exact ⟨by omega, by omega⟩ | exact ⟨by omega, by omega, by omega⟩ | omega | (simp only [List.length_append, List.length_cons, List.length_nil]; omega) | (subst_vars; omega)), fun t_5 a2_7 n2_7 h18 h19 => ?_⟩
          refine ⟨_, rfl, ?_⟩
          refine ⟨_, rfl, ?_⟩
          refine ⟨_, _, _, _, _, rfl, upd_same, (by first | assumption | exact Ow.divw64 (by omega) (by omega) | exact Ow.mul0 ⟨by omega, by omega⟩ | exact Ow.mul1 ⟨by omega, by omega⟩ | exact Ow.shl0 (by omega) (by omega) (by omega) | exact ⟨by omega, by omega⟩ | exact ⟨by omega, by omega, by omega⟩ | omega | (simp only [List.length_append, List.length_cons, List.length_nil]; omega) | (subst_vars; omega)), (by first | assumption | exact Ow.divw64 (by omega) (by omega) | exact Ow.mul0 ⟨by omega, by omega⟩ | exact Ow.mul1 ⟨by omega, by omega⟩ | exact Ow.shl0 (by omega) (by omega) (by omega) | exact ⟨by omega, by omega⟩ | exact ⟨by omega, by omega, by omega⟩ | omega | (simp only [List.length_append, List.length_cons, List.length_nil]; omega) | (subst_vars; omega)), fun t_6 a2_8 n2_8 h20 h21 => ?_⟩
          refine ⟨_, _, rfl, rfl, (.inr (Ow.shlz (n := 2300) (Ow.Sz.rng (n := 20) h18 h19 (by decide)) (by first | assumption | exact Ow.divw64 (by omega) (by omega) | exact Ow.mul0 ⟨by omega, by omega⟩ | exact Ow.mul1 ⟨by omega, by omega⟩ | exact Ow.shl0 (by omega) (by omega) (by omega) | exact ⟨by omega, by omega⟩ | exact ⟨by omega, by omega, by omega⟩ | omega | (simp only [List.length_append, List.length_cons, List.length_nil]; omega) | (subst_vars; omega)) (by first | assumption | exact Ow.divw64 (by omega) (by omega) | exact Ow.mul0 ⟨by omega, by omega⟩ | exact Ow.mul1 ⟨by omega, by omega⟩ | exact Ow.shl0 (by omega) (by omega) (by omega) | exact ⟨by omega, by omega⟩ | exact ⟨by omega, by omega, by omega⟩ | omega | (simp only [List.length_append, List.length_cons, List.length_nil]; omega) | (subst_vars; omega)) (by decide))), fun s h_s => ?_⟩
          have z_s : Ow.Sz 2321 s := by rw [h_s]; exact (Ow.Sz.shl (n := 2300) (Ow.Sz.rng (n := 20) h18 h19 (by decide)) (by first | assumption | exact Ow.divw64 (by omega) (by omega) | exact Ow.mul0 ⟨by omega, by omega⟩ | exact Ow.mul1 ⟨by omega, by omega⟩ | exact Ow.shl0 (by omega) (by omega) (by omega) | exact ⟨by omega, by omega⟩ | exact ⟨by omega, by omega, by omega⟩ | omega | (simp only [List.length_append, List.length_cons, List.length_nil]; omega) | (subst_vars; omega)))
          refine ⟨_, rfl, ?_⟩
          refine ⟨_, _, _, _, _, rfl, upd_same, (by first | assumption | exact Ow.divw64 (by omega) (by omega) | exact Ow.mul0 ⟨by omega, by omega⟩ | exact Ow.mul1 ⟨by omega, by omega⟩ | exact Ow.shl0 (by omega) (by omega) (by omega) | exact ⟨by omega, by omega⟩ | exact ⟨by omega, by omega, by omega⟩ | omega | (simp only [List.length_append, List.length_cons, List.length_nil]; omega) | (subst_vars; omega)), (by first | assumption | exact Ow.divw64 (by omega) (by omega) | exact Ow.mul0 ⟨by omega, by omega⟩ | exact Ow.mul1 ⟨by omega, by omega⟩ | exact Ow.shl0 (by omega) (by omega) (by omega) | exact ⟨by omega, by omega⟩ | exact ⟨by omega, by omega, by omega⟩ | omega | (simp only [List.length_append, List.length_cons, List.length_nil]; omega) | (subst_vars; omega)), fun t_7 a2_9 n2_9 h22 h23 => ?_⟩
          refine ⟨_, _, rfl, rfl, ?_⟩
          refine ⟨_, rfl, fun l_number_here_5 h_l_number_here_5 => ?_⟩
          have z_l_number_here_5 : Ow.Sz 2322 l_number_here_5 := by rw [h_l_number_here_5]; exact (Ow.Sz.add z_s (Ow.Sz.mono (Ow.Sz.rng (n := 20) h22 h23 (by decide)) (by decide : 20 ≤ 2321)))
          refine ⟨_, rfl, ?_⟩
          refine ⟨_, _, _, _, _, rfl, upd_same, (by first | assumption | exact Ow.divw64 (by omega) (by omega) | exact Ow.mul0 ⟨by omega, by omega⟩ | exact Ow.mul1 ⟨by omega, by omega⟩ | exact Ow.shl0 (by omega) (by omega) (by omega) | exact ⟨by omega, by omega⟩ | exact ⟨by omega, by omega, by omega⟩ | omega | (simp only [List.length_append, List.length_cons, List.length_nil]; omega) | (subst_vars; omega)), (by first | assumption | exact Ow.divw64 (by omega) (by omega) | exact Ow.mul0 ⟨by omega, by omega⟩ | exact Ow.mul1 ⟨by omega, by omega⟩ | exact Ow.shl0 (by omega) (by omega) (by omega) | exact ⟨by omega, by omega⟩ | exact ⟨by omega, by omega, by omega⟩ | omega | (simp only [List.length_append, List.length_cons, List.length_nil]; omega) | (subst_vars; omega)), fun t_8 a2_10 n2_10 h24 h25 => ?_⟩
          refine ⟨rfl, ?_⟩
          refine ⟨_, rfl, ?_⟩
          refine Ow.ifeqi (fun h26 => ?_) (fun h26 => ?_)
          · refine ⟨_, rfl, ?_⟩
            refine ⟨_, _, rfl, rfl, ?_⟩
            refine ⟨_, rfl, fun l_number_here_6 h_l_number_here_6 => ?_⟩
            have z_l_number_here_6 : Ow.Sz 2323 l_number_here_6 := by rw [h_l_number_here_6]; exact (Ow.Sz.sub (Ow.Sz.mono (Ow.Sz.lit (n := 1) (i := 0) (by decide)) (by decide : 1 ≤ 2322)) z_l_number_here_5)
            refine ⟨_, rfl, ?_⟩
            rw [upd_upd, upd_upd, upd_upd, upd_upd]
            exact kont l_number_here_6 a2_10 n2_10 (Ow.Sz.mono z_l_number_here_6 (by decide : 2323 ≤ 2340))
          · refine ⟨_, rfl, ?_⟩
            rw [upd_upd, upd_upd, upd_upd, upd_upd]
            exact kont l_number_here_5 a2_10 n2_10 (Ow.Sz.mono z_l_number_here_5 (by decide : 2322 ≤ 2340))
        · refine ⟨_, rfl, ?_⟩
          refine ⟨_, _, _, _, _, rfl, upd_same, (by first | assumption | exact Ow.divw64 (by omega) (by omega) | exact Ow.mul0 ⟨by omega, by omega⟩ | exact Ow.mul1 ⟨by omega, by omega⟩ | exact Ow.shl0 (by omega) (by omega) (by omega) | exact ⟨by omega, by omega⟩ | exact ⟨by omega, by omega, by omega⟩ | omega | (simp only [List.length_append, List.length_cons, List.length_nil]; omega) | (subst_vars; omega)), (by first | assumption | exact Ow.divw64 (by omega) (by omega) | exact Ow.mul0 ⟨by omega, by omega⟩ | exact Ow.mul1 ⟨by omega, by omega⟩ | exact Ow.shl0 (by omega) (by omega) (by omega) | exact ⟨by omega, by omega⟩ | exact ⟨by omega, by omega, by omega⟩ | omega | (simp only [List.length_append, List.length_cons, List.length_nil]; omega) | (subst_vars; omega)), fun l_number_here_7 a2_11 n2_11 h27 h28 => ?_⟩
          refine ⟨_, rfl, ?_⟩
          refine ⟨_, _, _, _, _, rfl, upd_same, (by first | assumption | exact Ow.divw64 (by omega) (by omega) | exact Ow.mul0 ⟨by omega, by omega⟩ | exact Ow.mul1 ⟨by omega, by omega⟩ | exact Ow.shl0 (by omega) (by omega) (by omega) | exact ⟨by omega, by omega⟩ | exact ⟨by omega, by omega, by omega⟩ | omega | (simp only [List.length_append, List.length_cons, List.length_nil]; omega) | (subst_vars; omega)), (by first | assumption | exact Ow.divw64 (by omega) (by omega) | exact Ow.mul0 ⟨by omega, by omega⟩ | exact Ow.mul1 ⟨by omega, by omega⟩ | exact Ow.shl0 (by omega) (by omega) (by omega) | exact ⟨by omega, by omega⟩ | exact ⟨by omega, by omega, by omega⟩ | omega | (simp only [List.length_append, List.length_cons, List.length_nil]; omega) | (subst_vars; omega)), fun t_9 a2_12 n2_12 h29 h30 => ?_⟩
          refine ⟨rfl, ?_⟩
          refine ⟨_, rfl, ?_⟩
          refine Ow.ifeqi (fun h31 => ?_) (fun h31 => ?_)
          · refine ⟨_, rfl, ?_⟩
            refine ⟨_, _, rfl, rfl, ?_⟩
            refine ⟨_, rfl, fun l_number_here_8 h_l_number_here_8 => ?_⟩
            have z_l_number_here_8 : Ow.Sz 7 l_number_here_8 := by rw [h_l_number_here_8]; exact (Ow.Sz.sub (Ow.Sz.mono (Ow.Sz.lit (n := 1) (i := 0) (by decide)) (by decide : 1 ≤ 6)) (Ow.Sz.rng (n := 6) h27 h28 (by decide)))
            refine ⟨_, rfl, ?_⟩
            rw [upd_upd, upd_upd]
            exact kont l_number_here_8 a2_12 n2_12 (Ow.Sz.mono z_l_number_here_8 (by decide : 7 ≤ 2340))
          · refine ⟨_, rfl, ?_⟩
            rw [upd_upd, upd_upd]
            exact kont l_number_here_7 a2_12 n2_12 (Ow.Sz.mono (Ow.Sz.rng (n := 6) h27 h28 (by decide)) (by decide : 6 ≤ 2340))
theorem ok_l_divisor (T : Tx K mg) : FnOk P w K mg base CX0 1 T.d_l_divisor.f T.d_l_divisor.fd ["_law_one", "_law_other"] (sp_l_divisor T) := by
  refine T.d_l_divisor.F.ok sc_l_divisor (fun vs H Q E h => ?_) (fun cdv A outer s H vs Q E hr h => ?_)
  · obtain ⟨one, other, rfl, _⟩ := h
    rfl
  · obtain ⟨one, other, rfl, c0, c1, kont⟩ := h
    refine ⟨_, (pss_cons (ps_set (i := 0) sc_l_divisor.nd rfl (Or.inl rfl) (Ow.pe_nmi (pe_callB call_abs (by rfl) T.z_abs (by decide +kernel) (pa_cons (pv 0) pa_nil))))
        (pss_cons (ps_set (i := 1) sc_l_divisor.nd rfl (Or.inl rfl) (Ow.pe_nmi (pe_callB call_abs (by rfl) T.z_abs (by decide +kernel) (pa_cons (pv 1) pa_nil))))
        (pss_cons (ps_while PassesOwn.never (pt_cmpR op_gt (pv 1) pe_int (nomark _)) (pss_one (ps_par (i := 0) (j := 1) (by rfl) sc_l_divisor.nd rfl rfl (by decide) rfl rfl (pa_cons (pv 1) (pa_cons (pe_op Ow.op_modN (pv 0) (pv 1)) pa_nil)) (by rfl))))
        (pss_one (ps_ret (pv 0)))))), ?_⟩
    refine ⟨_, rfl, ?_⟩
    refine ⟨_, rfl, ?_⟩
    refine ⟨_, rfl, fun ab h_ab => ?_⟩
    have hm_ab := Ow.abs_ite h_ab
    refine ⟨_, rfl, ?_⟩
    refine ⟨_, rfl, ?_⟩
    refine ⟨_, rfl, fun ab_2 h_ab_2 => ?_⟩
    have hm_ab_2 := Ow.abs_ite h_ab_2
    obtain ⟨Wi, h1⟩ : ∃ W : Hp → Nat → L2.St → Hp → Prop, W = fun H0 m σ2 H2 => ∃ (a : Int) (b : Int), m = b.toNat ∧ σ2 = [some (.int (a)), some (.int (b))] ∧ H2 = H0 ∧ (0 ≤ a) ∧ (0 ≤ b) ∧ ((Int.gcd a b : Int) = Int.gcd one other) ∧ True := ⟨_, rfl⟩
    refine ⟨Wi _, ⟨_, by rw [h1]; exact ⟨_, _, rfl, rfl, rfl, (by first | omega | exact congrArg Nat.cast (Ow.gcd_abs h_ab h_ab_2)), (by first | omega | exact congrArg Nat.cast (Ow.gcd_abs h_ab h_ab_2)), (by first | omega | exact congrArg Nat.cast (Ow.gcd_abs h_ab h_ab_2)), trivial⟩⟩, ?_⟩
    intro m σ2 Hn h3
    rw [h1] at h3
    obtain ⟨a, b, rfl, rfl, rfl, h4, h5, h6, _⟩ := h3
    refine ⟨_, rfl, ?_⟩
    refine ⟨_, _, rfl, rfl, ?_⟩
    refine ⟨_, rfl, ?_⟩
    refine Ow.ifd (fun h7 => ?_) (fun h7 => ?_)
    · refine ⟨fun σ3 H3 => ∃ m2, m2 < b.toNat ∧ Wi _ m2 σ3 H3, fun _ _ z => z, ?_⟩
      refine ⟨_, rfl, ?_⟩
      refine ⟨_, rfl, ?_⟩
      refine ⟨_, rfl, ?_⟩
      refine ⟨_, _, rfl, rfl, (by first | assumption | exact Ow.divw64 (by omega) (by omega) | exact Ow.mul0 ⟨by omega, by omega⟩ | exact Ow.mul1 ⟨by omega, by omega⟩ | exact Ow.shl0 (by omega) (by omega) (by omega) | exact ⟨by omega, by omega⟩ | exact ⟨by omega, by omega, by omega⟩ | omega | (simp only [List.length_append, List.length_cons, List.length_nil]; omega) | (subst_vars; omega)), fun r h_r h0_r h1_r => ?_⟩
      refine ⟨_, _, rfl, ?_⟩
      refine ⟨_, ?_, by rw [h1]; exact ⟨_, _, rfl, rfl, rfl, (by first | omega | exact Ow.gcd_step (by assumption) (by assumption) (by assumption) (by assumption)), (by first | omega | exact Ow.gcd_step (by assumption) (by assumption) (by assumption) (by assumption)), (by first | omega | exact Ow.gcd_step (by assumption) (by assumption) (by assumption) (by assumption)), trivial⟩⟩
      first | assumption | exact Ow.divw64 (by omega) (by omega) | exact Ow.mul0 ⟨by omega, by omega⟩ | exact Ow.mul1 ⟨by omega, by omega⟩ | exact Ow.shl0 (by omega) (by omega) (by omega) | exact ⟨by omega, by omega⟩ | exact ⟨by omega, by omega, by omega⟩ | omega | (simp only [List.length_append, List.length_cons, List.length_nil]; omega) | (subst_vars; omega)
    · refine ⟨_, rfl, ?_⟩
      have d0 := Ow.gcd_end (by assumption) (by assumption) (by assumption) (by assumption)
      have d1 := Ow.gcd_size c0 c1 d0
      exact kont a (by first | assumption | omega) (by first | assumption | omega) d1.2
theorem ok_l_fraction (T : Tx K mg) : FnOk P w K mg base CX0 3 T.d_l_fraction.f T.d_l_fraction.fd ["_law_state", "_law_far"] (sp_l_fraction T) := by
  refine T.d_l_fraction.F.ok sc_l_fraction (fun vs H Q E h => ?_) (fun cdv A outer s H vs Q E hr h => ?_)
  · obtain ⟨box, far, a, n, c, rfl, _⟩ := h
    rfl
  · obtain ⟨box, far, a, n, c, rfl, c0, c1, c2, kont⟩ := h
    refine ⟨_, (pss_cons (ps_set (i := 2) sc_l_fraction.nd rfl (Or.inl rfl) (pe_call (Ow.ok_l_number T) (hr.mono (by decide : 2 ≤ 2)) (by rfl) T.d_l_number.m T.d_l_number.F.kp T.d_l_number.b .nil pass0 (pa_cons (pv 0) (pa_cons (pv 1) pa_nil))))
        (pss_cons (ps_set (i := 3) sc_l_fraction.nd rfl (Or.inl rfl) (Ow.pe_nmi (pe_callB call_abs (by rfl) T.z_abs (by decide +kernel) (pa_cons (pe_call (Ow.ok_l_number T) (hr.mono (by decide : 2 ≤ 2)) (by rfl) T.d_l_number.m T.d_l_number.F.kp T.d_l_number.b .nil pass0 (pa_cons (pv 0) (pa_cons (pv 1) pa_nil))) pa_nil))))
        (pss_cons (ps_if (pt_cmpR op_eq (pv 3) pe_int (nomark _)) (pss_one (ps_set (i := 3) sc_l_fraction.nd rfl (Or.inl rfl) (Ow.pe_nmi (pe_op op_add pe_int (pe_call (Ow.ok_l_draw T) (hr.mono (by decide : 1 ≤ 2)) (by rfl) T.d_l_draw.m T.d_l_draw.F.kp T.d_l_draw.b .nil pass0 (pa_cons (pv 0) (pa_cons pe_int pa_nil))))))) pss_nil)
        (pss_cons (ps_set (i := 4) sc_l_fraction.nd rfl (Or.inl rfl) (pe_call (Ow.ok_l_divisor T) (hr.mono (by decide : 1 ≤ 2)) (by rfl) T.d_l_divisor.m T.d_l_divisor.F.kp T.d_l_divisor.b .nil pass0 (pa_cons (pv 2) (pa_cons (pv 3) pa_nil))))
        (pss_one (ps_ret (pe_tup (pa_cons (pe_op Ow.op_divN (pv 2) (pv 4)) (pa_cons (pe_op Ow.op_divN (pv 3) (pv 4)) pa_nil))))))))), ?_⟩
    refine ⟨_, rfl, ?_⟩
    refine ⟨_, rfl, ?_⟩
    refine ⟨_, _, _, _, _, rfl, c0, (by first | assumption | exact Ow.divw64 (by omega) (by omega) | exact Ow.mul0 ⟨by omega, by omega⟩ | exact Ow.mul1 ⟨by omega, by omega⟩ | exact Ow.shl0 (by omega) (by omega) (by omega) | exact ⟨by omega, by omega⟩ | exact ⟨by omega, by omega, by omega⟩ | omega | (simp only [List.length_append, List.length_cons, List.length_nil]; omega) | (subst_vars; omega)), (by first | assumption | exact Ow.divw64 (by omega) (by omega) | exact Ow.mul0 ⟨by omega, by omega⟩ | exact Ow.mul1 ⟨by omega, by omega⟩ | exact Ow.shl0 (by omega) (by omega) (by omega) | exact ⟨by omega, by omega⟩ | exact ⟨by omega, by omega, by omega⟩ | omega | (simp only [List.length_append, List.length_cons, List.length_nil]; omega) | (subst_vars; omega)), fun l_top a2 n2 h1 => ?_⟩
    refine ⟨_, rfl, ?_⟩
    refine ⟨_, rfl, ?_⟩
    refine ⟨_, _, _, _, _, rfl, upd_same, (by first | assumption | exact Ow.divw64 (by omega) (by omega) | exact Ow.mul0 ⟨by omega, by omega⟩ | exact Ow.mul1 ⟨by omega, by omega⟩ | exact Ow.shl0 (by omega) (by omega) (by omega) | exact ⟨by omega, by omega⟩ | exact ⟨by omega, by omega, by omega⟩ | omega | (simp only [List.length_append, List.length_cons, List.length_nil]; omega) | (subst_vars; omega)), (by first | assumption | exact Ow.divw64 (by omega) (by omega) | exact Ow.mul0 ⟨by omega, by omega⟩ | exact Ow.mul1 ⟨by omega, by omega⟩ | exact Ow.shl0 (by omega) (by omega) (by omega) | exact ⟨by omega, by omega⟩ | exact ⟨by omega, by omega, by omega⟩ | omega | (simp only [List.length_append, List.length_cons, List.length_nil]; omega) | (subst_vars; omega)), fun t a2_2 n2_2 h2 => ?_⟩
    refine ⟨_, rfl, ?_⟩
    refine ⟨_, rfl, fun ab h_ab => ?_⟩
    have hm_ab := Ow.abs_ite h_ab
    refine ⟨_, rfl, ?_⟩
    refine ⟨rfl, ?_⟩
    refine ⟨_, rfl, ?_⟩
    refine Ow.ifeqi (fun h3 => ?_) (fun h3 => ?_)
    · refine ⟨_, rfl, ?_⟩
      refine ⟨_, _, _, _, _, rfl, upd_same, (by first | assumption | exact Ow.divw64 (by omega) (by omega) | exact Ow.mul0 ⟨by omega, by omega⟩ | exact Ow.mul1 ⟨by omega, by omega⟩ | exact Ow.shl0 (by omega) (by omega) (by omega) | exact ⟨by omega, by omega⟩ | exact ⟨by omega, by omega, by omega⟩ | omega | (simp only [List.length_append, List.length_cons, List.length_nil]; omega) | (subst_vars; omega)), (by first | assumption | exact Ow.divw64 (by omega) (by omega) | exact Ow.mul0 ⟨by omega, by omega⟩ | exact Ow.mul1 ⟨by omega, by omega⟩ | exact Ow.shl0 (by omega) (by omega) (by omega) | exact ⟨by omega, by omega⟩ | exact ⟨by omega, by omega, by omega⟩ | omega | (simp only [List.length_append, List.length_cons, List.length_nil]; omega) | (subst_vars; omega)), fun t_2 a2_3 n2_3 h4 h5 => ?_⟩
      refine ⟨_, _, rfl, rfl, ?_⟩
      refine ⟨_, rfl, fun l_bottom h_l_bottom => ?_⟩
      have z_l_bottom : Ow.Sz 5 l_bottom := by rw [h_l_bottom]; exact (Ow.Sz.add (Ow.Sz.mono (Ow.Sz.lit (n := 1) (i := 1) (by decide)) (by decide : 1 ≤ 4)) (Ow.Sz.rng (n := 4) h4 h5 (by decide)))
      refine ⟨_, rfl, ?_⟩
      refine ⟨_, rfl, ?_⟩
      refine ⟨_, _, rfl, (by first | assumption | exact Ow.divw64 (by omega) (by omega) | exact Ow.mul0 ⟨by omega, by omega⟩ | exact Ow.mul1 ⟨by omega, by omega⟩ | exact Ow.shl0 (by omega) (by omega) (by omega) | exact ⟨by omega, by omega⟩ | exact ⟨by omega, by omega, by omega⟩ | omega | (simp only [List.length_append, List.length_cons, List.length_nil]; omega) | (subst_vars; omega)), (Ow.Sz.mono z_l_bottom (by decide : 5 ≤ 8000)), fun l_by h6 h7 h8 => ?_⟩
      refine ⟨_, rfl, ?_⟩
      refine ⟨_, rfl, ?_⟩
      refine ⟨_, _, rfl, rfl, Ow.divz (by first | assumption | exact Ow.divw64 (by omega) (by omega) | exact Ow.mul0 ⟨by omega, by omega⟩ | exact Ow.mul1 ⟨by omega, by omega⟩ | exact Ow.shl0 (by omega) (by omega) (by omega) | exact ⟨by omega, by omega⟩ | exact ⟨by omega, by omega, by omega⟩ | omega | (simp only [List.length_append, List.length_cons, List.length_nil]; omega) | (subst_vars; omega)) h8 (by decide) (by decide), fun q h_q => ?_⟩
      have z_q : Ow.Sz 2340 q := by rw [h_q]; exact (Ow.Sz.div h1 (by first | assumption | exact Ow.divw64 (by omega) (by omega) | exact Ow.mul0 ⟨by omega, by omega⟩ | exact Ow.mul1 ⟨by omega, by omega⟩ | exact Ow.shl0 (by omega) (by omega) (by omega) | exact ⟨by omega, by omega⟩ | exact ⟨by omega, by omega, by omega⟩ | omega | (simp only [List.length_append, List.length_cons, List.length_nil]; omega) | (subst_vars; omega)))
      refine ⟨_, rfl, ?_⟩
      refine ⟨_, rfl, ?_⟩
      refine ⟨_, _, rfl, rfl, Ow.divz (by first | assumption | exact Ow.divw64 (by omega) (by omega) | exact Ow.mul0 ⟨by omega, by omega⟩ | exact Ow.mul1 ⟨by omega, by omega⟩ | exact Ow.shl0 (by omega) (by omega) (by omega) | exact ⟨by omega, by omega⟩ | exact ⟨by omega, by omega, by omega⟩ | omega | (simp only [List.length_append, List.length_cons, List.length_nil]; omega) | (subst_vars; omega)) h8 (by decide) (by decide), fun q_2 h_q_2 => ?_⟩
      have z_q_2 : Ow.Sz 5 q_2 := by rw [h_q_2]; exact (Ow.Sz.div z_l_bottom (by first | assumption | exact Ow.divw64 (by omega) (by omega) | exact Ow.mul0 ⟨by omega, by omega⟩ | exact Ow.mul1 ⟨by omega, by omega⟩ | exact Ow.shl0 (by omega) (by omega) (by omega) | exact ⟨by omega, by omega⟩ | exact ⟨by omega, by omega, by omega⟩ | omega | (simp only [List.length_append, List.length_cons, List.length_nil]; omega) | (subst_vars; omega)))
      refine ⟨by show 2 ≤ sizeLine; decide, fun p h_p => ?_⟩
      have d1 := Ow.lows (t := l_top) (b := l_bottom) (g := l_by) (by assumption) (by omega)
      try rw [← h_q, ← h_q_2] at d1
      try rw [← h_q_3, ← h_q_4] at d1
      try rw [← h_q_5, ← h_q_6] at d1
      exact kont q q_2 a2_3 n2_3 z_q (by first | assumption | exact Ow.divw64 (by omega) (by omega) | exact Ow.mul0 ⟨by omega, by omega⟩ | exact Ow.mul1 ⟨by omega, by omega⟩ | exact Ow.shl0 (by omega) (by omega) (by omega) | exact ⟨by omega, by omega⟩ | exact ⟨by omega, by omega, by omega⟩ | omega | (simp only [List.length_append, List.length_cons, List.length_nil]; omega) | (subst_vars; omega)) (Ow.Sz.mono z_q_2 (by decide : 5 ≤ 2340)) _ _ ((((Ow.Fm.refl.mut).mut).mut).same (Ow.same_new h_p)) (Ow.at_new h_p upd_same) (Ow.Fm.free (((Ow.Fm.refl.mut).mut).mut) upd_same h_p) upd_same
    · refine ⟨_, rfl, ?_⟩
      refine ⟨_, rfl, ?_⟩
      refine ⟨_, _, rfl, (by first | assumption | exact Ow.divw64 (by omega) (by omega) | exact Ow.mul0 ⟨by omega, by omega⟩ | exact Ow.mul1 ⟨by omega, by omega⟩ | exact Ow.shl0 (by omega) (by omega) (by omega) | exact ⟨by omega, by omega⟩ | exact ⟨by omega, by omega, by omega⟩ | omega | (simp only [List.length_append, List.length_cons, List.length_nil]; omega) | (subst_vars; omega)), (Ow.Sz.mono (Ow.Sz.abs h2 h_ab) (by decide : 2340 ≤ 8000)), fun l_by_2 h9 h10 h11 => ?_⟩
      refine ⟨_, rfl, ?_⟩
      refine ⟨_, rfl, ?_⟩
      refine ⟨_, _, rfl, rfl, Ow.divz (by first | assumption | exact Ow.divw64 (by omega) (by omega) | exact Ow.mul0 ⟨by omega, by omega⟩ | exact Ow.mul1 ⟨by omega, by omega⟩ | exact Ow.shl0 (by omega) (by omega) (by omega) | exact ⟨by omega, by omega⟩ | exact ⟨by omega, by omega, by omega⟩ | omega | (simp only [List.length_append, List.length_cons, List.length_nil]; omega) | (subst_vars; omega)) h11 (by decide) (by decide), fun q_3 h_q_3 => ?_⟩
      have z_q_3 : Ow.Sz 2340 q_3 := by rw [h_q_3]; exact (Ow.Sz.div h1 (by first | assumption | exact Ow.divw64 (by omega) (by omega) | exact Ow.mul0 ⟨by omega, by omega⟩ | exact Ow.mul1 ⟨by omega, by omega⟩ | exact Ow.shl0 (by omega) (by omega) (by omega) | exact ⟨by omega, by omega⟩ | exact ⟨by omega, by omega, by omega⟩ | omega | (simp only [List.length_append, List.length_cons, List.length_nil]; omega) | (subst_vars; omega)))
      refine ⟨_, rfl, ?_⟩
      refine ⟨_, rfl, ?_⟩
      refine ⟨_, _, rfl, rfl, Ow.divz (by first | assumption | exact Ow.divw64 (by omega) (by omega) | exact Ow.mul0 ⟨by omega, by omega⟩ | exact Ow.mul1 ⟨by omega, by omega⟩ | exact Ow.shl0 (by omega) (by omega) (by omega) | exact ⟨by omega, by omega⟩ | exact ⟨by omega, by omega, by omega⟩ | omega | (simp only [List.length_append, List.length_cons, List.length_nil]; omega) | (subst_vars; omega)) h11 (by decide) (by decide), fun q_4 h_q_4 => ?_⟩
      have z_q_4 : Ow.Sz 2340 q_4 := by rw [h_q_4]; exact (Ow.Sz.div (Ow.Sz.abs h2 h_ab) (by first | assumption | exact Ow.divw64 (by omega) (by omega) | exact Ow.mul0 ⟨by omega, by omega⟩ | exact Ow.mul1 ⟨by omega, by omega⟩ | exact Ow.shl0 (by omega) (by omega) (by omega) | exact ⟨by omega, by omega⟩ | exact ⟨by omega, by omega, by omega⟩ | omega | (simp only [List.length_append, List.length_cons, List.length_nil]; omega) | (subst_vars; omega)))
      refine ⟨by show 2 ≤ sizeLine; decide, fun p_2 h_p_2 => ?_⟩
      have d1 := Ow.lows (t := l_top) (b := ab) (g := l_by_2) (by assumption) (by omega)
      try rw [← h_q, ← h_q_2] at d1
      try rw [← h_q_3, ← h_q_4] at d1
      try rw [← h_q_5, ← h_q_6] at d1
      exact kont q_3 q_4 a2_2 n2_2 z_q_3 (by first | assumption | exact Ow.divw64 (by omega) (by omega) | exact Ow.mul0 ⟨by omega, by omega⟩ | exact Ow.mul1 ⟨by omega, by omega⟩ | exact Ow.shl0 (by omega) (by omega) (by omega) | exact ⟨by omega, by omega⟩ | exact ⟨by omega, by omega, by omega⟩ | omega | (simp only [List.length_append, List.length_cons, List.length_nil]; omega) | (subst_vars; omega)) z_q_4 _ _ (((Ow.Fm.refl.mut).mut).same (Ow.same_new h_p_2)) (Ow.at_new h_p_2 upd_same) (Ow.Fm.free ((Ow.Fm.refl.mut).mut) upd_same h_p_2) upd_same
theorem ok_l_cell (T : Tx K mg) : FnOk P w K mg base CX0 1 T.d_l_cell.f T.d_l_cell.fd ["_law_script", "_law_k"] (sp_l_cell T) := by
  refine T.d_l_cell.F.ok sc_l_cell (fun vs H Q E h => ?_) (fun cdv A outer s H vs Q E hr h => ?_)
  · obtain ⟨script, k, ns, rfl, _⟩ := h
    rfl
  · obtain ⟨script, k, ns, rfl, c0, c1, c2, kont⟩ := h
    refine ⟨_, (pss_cons (ps_if (pt_cmpR op_lt (pv 1) (Ow.pe_nmi (pe_callB call_len_seq (by rfl) T.z_len (by decide +kernel) (pa_cons (pv 0) pa_nil))) (nomark _)) (pss_one (ps_ret (pe_ix ix_list (pv 0) (pv 1) (fun _ _ => rfl)))) pss_nil)
        (pss_cons (ps_set (i := 2) sc_l_cell.nd rfl (Or.inl rfl) (Ow.pe_nmi (pe_op op_add (pe_op Ow.op_mulN (pv 1) pe_int) pe_int)))
        (pss_cons (ps_if (pt_cmpR op_gt (Ow.pe_nmi (pe_callB call_len_seq (by rfl) T.z_len (by decide +kernel) (pa_cons (pv 0) pa_nil))) pe_int (nomark _)) (pss_one (ps_set (i := 2) sc_l_cell.nd rfl (Or.inl rfl) (pe_op Ow.op_modN (pe_op op_add (pe_op Ow.op_mulN (pe_ix ix_list (pv 0) (pe_op Ow.op_modN (pe_op Ow.op_mulN (pv 1) pe_int) (Ow.pe_nmi (pe_callB call_len_seq (by rfl) T.z_len (by decide +kernel) (pa_cons (pv 0) pa_nil)))) (fun _ _ => rfl)) pe_int) (pe_op Ow.op_mulN (pv 1) pe_int)) pe_int))) pss_nil)
        (pss_one (ps_ret (pe_op Ow.op_modN (pe_op Ow.op_mulN (pv 2) (pv 2)) pe_int)))))), ?_⟩
    refine ⟨_, rfl, ?_⟩
    refine ⟨_, rfl, ?_⟩
    refine ⟨_, _, rfl, .inl c0, ?_⟩
    refine ⟨_, rfl, fun len h_len => ?_⟩
    rw [List.length_map] at h_len
    refine ⟨_, _, rfl, rfl, ?_⟩
    refine ⟨_, rfl, ?_⟩
    refine Ow.ifd (fun h1 => ?_) (fun h1 => ?_)
    · refine ⟨_, rfl, ?_⟩
      refine ⟨_, rfl, ?_⟩
      refine Ow.ixn (xs := ns) (i := k) c0 (by first | assumption | exact Ow.divw64 (by omega) (by omega) | exact Ow.mul0 ⟨by omega, by omega⟩ | exact Ow.mul1 ⟨by omega, by omega⟩ | exact Ow.shl0 (by omega) (by omega) (by omega) | exact ⟨by omega, by omega⟩ | exact ⟨by omega, by omega, by omega⟩ | omega | (simp only [List.length_append, List.length_cons, List.length_nil]; omega) | (subst_vars; omega)) (by first | assumption | exact Ow.divw64 (by omega) (by omega) | exact Ow.mul0 ⟨by omega, by omega⟩ | exact Ow.mul1 ⟨by omega, by omega⟩ | exact Ow.shl0 (by omega) (by omega) (by omega) | exact ⟨by omega, by omega⟩ | exact ⟨by omega, by omega, by omega⟩ | omega | (simp only [List.length_append, List.length_cons, List.length_nil]; omega) | (subst_vars; omega)) (fun it h_it => ?_)
      exact kont it
    · refine ⟨_, rfl, ?_⟩
      refine ⟨_, _, rfl, rfl, (by first | assumption | exact Ow.divw64 (by omega) (by omega) | exact Ow.mul0 ⟨by omega, by omega⟩ | exact Ow.mul1 ⟨by omega, by omega⟩ | exact Ow.shl0 (by omega) (by omega) (by omega) | exact ⟨by omega, by omega⟩ | exact ⟨by omega, by omega, by omega⟩ | omega | (simp only [List.length_append, List.length_cons, List.length_nil]; omega) | (subst_vars; omega)), fun m h_m => ?_⟩
      refine ⟨_, _, rfl, rfl, ?_⟩
      refine ⟨_, rfl, fun l_number_here h_l_number_here => ?_⟩
      refine ⟨_, rfl, ?_⟩
      refine ⟨_, _, rfl, .inl c0, ?_⟩
      refine ⟨_, rfl, fun len_2 h_len_2 => ?_⟩
      rw [List.length_map] at h_len_2
      refine ⟨_, _, rfl, rfl, ?_⟩
      refine ⟨_, rfl, ?_⟩
      refine Ow.ifd (fun h2 => ?_) (fun h2 => ?_)
      · refine ⟨_, rfl, ?_⟩
        refine ⟨_, rfl, ?_⟩
        refine ⟨_, _, rfl, rfl, (by first | assumption | exact Ow.divw64 (by omega) (by omega) | exact Ow.mul0 ⟨by omega, by omega⟩ | exact Ow.mul1 ⟨by omega, by omega⟩ | exact Ow.shl0 (by omega) (by omega) (by omega) | exact ⟨by omega, by omega⟩ | exact ⟨by omega, by omega, by omega⟩ | omega | (simp only [List.length_append, List.length_cons, List.length_nil]; omega) | (subst_vars; omega)), fun m_2 h_m_2 => ?_⟩
        refine ⟨_, rfl, ?_⟩
        refine ⟨_, _, rfl, .inl c0, ?_⟩
        refine ⟨_, rfl, fun len_3 h_len_3 => ?_⟩
        rw [List.length_map] at h_len_3
        refine ⟨_, _, rfl, rfl, (by first | assumption | exact Ow.divw64 (by omega) (by omega) | exact Ow.mul0 ⟨by omega, by omega⟩ | exact Ow.mul1 ⟨by omega, by omega⟩ | exact Ow.shl0 (by omega) (by omega) (by omega) | exact ⟨by omega, by omega⟩ | exact ⟨by omega, by omega, by omega⟩ | omega | (simp only [List.length_append, List.length_cons, List.length_nil]; omega) | (subst_vars; omega)), fun r h_r h0_r h1_r => ?_⟩
        refine Ow.ixn (xs := ns) (i := r) c0 (by first | assumption | exact Ow.divw64 (by omega) (by omega) | exact Ow.mul0 ⟨by omega, by omega⟩ | exact Ow.mul1 ⟨by omega, by omega⟩ | exact Ow.shl0 (by omega) (by omega) (by omega) | exact ⟨by omega, by omega⟩ | exact ⟨by omega, by omega, by omega⟩ | omega | (simp only [List.length_append, List.length_cons, List.length_nil]; omega) | (subst_vars; omega)) (by first | assumption | exact Ow.divw64 (by omega) (by omega) | exact Ow.mul0 ⟨by omega, by omega⟩ | exact Ow.mul1 ⟨by omega, by omega⟩ | exact Ow.shl0 (by omega) (by omega) (by omega) | exact ⟨by omega, by omega⟩ | exact ⟨by omega, by omega, by omega⟩ | omega | (simp only [List.length_append, List.length_cons, List.length_nil]; omega) | (subst_vars; omega)) (fun it_2 h_it_2 => ?_)
        refine ⟨_, _, rfl, rfl, (by first | assumption | exact Ow.divw64 (by omega) (by omega) | exact Ow.mul0 ⟨by omega, by omega⟩ | exact Ow.mul1 ⟨by omega, by omega⟩ | exact Ow.shl0 (by omega) (by omega) (by omega) | exact ⟨by omega, by omega⟩ | exact ⟨by omega, by omega, by omega⟩ | omega | (simp only [List.length_append, List.length_cons, List.length_nil]; omega) | (subst_vars; omega)), fun m_3 h_m_3 => ?_⟩
        refine ⟨_, rfl, ?_⟩
        refine ⟨_, _, rfl, rfl, (by first | assumption | exact Ow.divw64 (by omega) (by omega) | exact Ow.mul0 ⟨by omega, by omega⟩ | exact Ow.mul1 ⟨by omega, by omega⟩ | exact Ow.shl0 (by omega) (by omega) (by omega) | exact ⟨by omega, by omega⟩ | exact ⟨by omega, by omega, by omega⟩ | omega | (simp only [List.length_append, List.length_cons, List.length_nil]; omega) | (subst_vars; omega)), fun m_4 h_m_4 => ?_⟩
        refine ⟨_, _, rfl, rfl, ?_⟩
        refine ⟨_, _, rfl, rfl, (by first | assumption | exact Ow.divw64 (by omega) (by omega) | exact Ow.mul0 ⟨by omega, by omega⟩ | exact Ow.mul1 ⟨by omega, by omega⟩ | exact Ow.shl0 (by omega) (by omega) (by omega) | exact ⟨by omega, by omega⟩ | exact ⟨by omega, by omega, by omega⟩ | omega | (simp only [List.length_append, List.length_cons, List.length_nil]; omega) | (subst_vars; omega)), fun l_number_here_2 h_l_number_here_2 h0_l_number_here_2 h1_l_number_here_2 => ?_⟩
        refine ⟨_, rfl, ?_⟩
        refine ⟨_, rfl, ?_⟩
        refine ⟨_, _, rfl, rfl, (.inr (Ow.mulx (Ow.Sz.md h0_l_number_here_2 h1_l_number_here_2 (Ow.Sz.lit (n := 31) (i := 2147483647) (by decide))) (Ow.Sz.md h0_l_number_here_2 h1_l_number_here_2 (Ow.Sz.lit (n := 31) (i := 2147483647) (by decide))) (by decide))), fun m_5 h_m_5 => ?_⟩
        have z_m_5 : Ow.Sz 62 m_5 := by rw [h_m_5]; exact (Ow.Sz.mul (Ow.Sz.md h0_l_number_here_2 h1_l_number_here_2 (Ow.Sz.lit (n := 31) (i := 2147483647) (by decide))) (Ow.Sz.md h0_l_number_here_2 h1_l_number_here_2 (Ow.Sz.lit (n := 31) (i := 2147483647) (by decide))))
        refine ⟨_, _, rfl, rfl, (by first | assumption | exact Ow.divw64 (by omega) (by omega) | exact Ow.mul0 ⟨by omega, by omega⟩ | exact Ow.mul1 ⟨by omega, by omega⟩ | exact Ow.shl0 (by omega) (by omega) (by omega) | exact ⟨by omega, by omega⟩ | exact ⟨by omega, by omega, by omega⟩ | omega | (simp only [List.length_append, List.length_cons, List.length_nil]; omega) | (subst_vars; omega)), fun r_2 h_r_2 h0_r_2 h1_r_2 => ?_⟩
        exact kont r_2
      · refine ⟨_, rfl, ?_⟩
        refine ⟨_, rfl, ?_⟩
        refine ⟨_, _, rfl, rfl, (by first | assumption | exact Ow.divw64 (by omega) (by omega) | exact Ow.mul0 ⟨by omega, by omega⟩ | exact Ow.mul1 ⟨by omega, by omega⟩ | exact Ow.shl0 (by omega) (by omega) (by omega) | exact ⟨by omega, by omega⟩ | exact ⟨by omega, by omega, by omega⟩ | omega | (simp only [List.length_append, List.length_cons, List.length_nil]; omega) | (subst_vars; omega)), fun m_6 h_m_6 => ?_⟩
        refine ⟨_, _, rfl, rfl, (by first | assumption | exact Ow.divw64 (by omega) (by omega) | exact Ow.mul0 ⟨by omega, by omega⟩ | exact Ow.mul1 ⟨by omega, by omega⟩ | exact Ow.shl0 (by omega) (by omega) (by omega) | exact ⟨by omega, by omega⟩ | exact ⟨by omega, by omega, by omega⟩ | omega | (simp only [List.length_append, List.length_cons, List.length_nil]; omega) | (subst_vars; omega)), fun r_3 h_r_3 h0_r_3 h1_r_3 => ?_⟩
        exact kont r_3
theorem ok_less (T : Tx K mg) : FnOk P w K mg base CX0 1 T.d_less.f T.d_less.fd ["one", "other"] (sp_less T) := by
  refine T.d_less.F.ok sc_less (fun vs H Q E h => ?_) (fun cdv A outer s H vs Q E hr h => ?_)
  · obtain ⟨one, other, a, b, c, d, rfl, _⟩ := h
    rfl
  · obtain ⟨one, other, a, b, c, d, rfl, c0, c1, c2, c3, c4, c5, c6, c7, kont⟩ := h
    refine ⟨_, (pss_one (ps_ret (pe_cmpR op_lt (pe_op Ow.op_mulN (pe_ix ix_tup (pv 0) pe_int (fun _ _ => rfl)) (pe_ix ix_tup (pv 1) pe_int (fun _ _ => rfl))) (pe_op Ow.op_mulN (pe_ix ix_tup (pv 1) pe_int (fun _ _ => rfl)) (pe_ix ix_tup (pv 0) pe_int (fun _ _ => rfl))) (nomark _)))), ?_⟩
    refine ⟨_, rfl, ?_⟩
    refine ⟨_, _, _, _, rfl, rfl, (SqT.of c0), (by first | rfl | decide), ?_⟩
    refine ⟨_, rfl, ?_⟩
    refine ⟨_, _, _, _, rfl, rfl, (SqT.of c4), (by first | rfl | decide), ?_⟩
    refine ⟨_, _, rfl, rfl, (.inr (Ow.mulx c2 c7 (by decide))), fun m h_m => ?_⟩
    have z_m : Ow.Sz 4800 m := by rw [h_m]; exact (Ow.Sz.mul c2 c7)
    refine ⟨_, rfl, ?_⟩
    refine ⟨_, _, _, _, rfl, rfl, (SqT.of c4), (by first | rfl | decide), ?_⟩
    refine ⟨_, rfl, ?_⟩
    refine ⟨_, _, _, _, rfl, rfl, (SqT.of c0), (by first | rfl | decide), ?_⟩
    refine ⟨_, _, rfl, rfl, (.inr (Ow.mulx c6 c3 (by decide))), fun m_2 h_m_2 => ?_⟩
    have z_m_2 : Ow.Sz 4800 m_2 := by rw [h_m_2]; exact (Ow.Sz.mul c6 c3)
    refine ⟨_, _, rfl, rfl, ?_⟩
    refine Ow.eqdd (P' := a * d < c * b) (by first | assumption | exact Ow.divw64 (by omega) (by omega) | exact Ow.mul0 ⟨by omega, by omega⟩ | exact Ow.mul1 ⟨by omega, by omega⟩ | exact Ow.shl0 (by omega) (by omega) (by omega) | exact ⟨by omega, by omega⟩ | exact ⟨by omega, by omega, by omega⟩ | omega | (simp only [List.length_append, List.length_cons, List.length_nil]; omega) | (subst_vars; omega)) ?_
    exact kont
theorem ok_l_whole (T : Tx K mg) : FnOk P w K mg base CX0 1 T.d_l_whole.f T.d_l_whole.fd ["_law_found"] (sp_l_whole T) := by
  refine T.d_l_whole.F.ok sc_l_whole (fun vs H Q E h => ?_) (fun cdv A outer s H vs Q E hr h => ?_)
  · obtain ⟨found, rfl, _⟩ := h
    rfl
  · obtain ⟨found, rfl, kont⟩ := h
    refine ⟨_, (pss_one (ps_ret (pe_and (pe_callB call_isi (by rfl) T.z_isinstance (by decide +kernel) (pa_cons (pv 0) (pa_cons (pe_bltn (v := .ty "int") (by rfl) T.z_int (by decide +kernel) rfl) pa_nil))) (pe_one (pe_not (pe_callB call_isi (by rfl) T.z_isinstance (by decide +kernel) (pa_cons (pv 0) (pa_cons (pe_bltn (v := .ty "bool") (by rfl) T.z_bool (by decide +kernel) rfl) pa_nil)))))))), ?_⟩
    refine ⟨_, rfl, ?_⟩
    refine ⟨_, _, _, _, true, rfl, .ty _, .base (.int _), kit_ty (by decide +kernel), ?_⟩
    refine ⟨_, rfl, ?_⟩
    refine iteT ?_
    refine ⟨_, rfl, ?_⟩
    refine ⟨_, _, _, _, false, rfl, .ty _, .base (.int _), kit_ty (by decide +kernel), ?_⟩
    refine ⟨_, rfl, ?_⟩
    exact kont
theorem ok_l_is_fraction (T : Tx K mg) : FnOk P w K mg base CX0 2 T.d_l_is_fraction.f T.d_l_is_fraction.fd ["_law_found"] (sp_l_is_fraction T) := by
  refine T.d_l_is_fraction.F.ok sc_l_is_fraction (fun vs H Q E h => ?_) (fun cdv A outer s H vs Q E hr h => ?_)
  · obtain ⟨found, t, b, rfl, _⟩ := h
    rfl
  · obtain ⟨found, t, b, rfl, c0, c1, c2, c3, kont⟩ := h
    refine ⟨_, (pss_cons (ps_if (PW.pt (pw_or (pt_not (pt_val (pe_callB call_isi (by rfl) T.z_isinstance (by decide +kernel) (pa_cons (pv 0) (pa_cons (pe_bltn (v := .ty "tuple") (by rfl) T.z_tuple (by decide +kernel) rfl) pa_nil))))) (pw_or (pt_cmpR op_ne (Ow.pe_nmi (pe_callB call_len_seq (by rfl) T.z_len (by decide +kernel) (pa_cons (pv 0) pa_nil))) pe_int (nomark _)) (pw_or (pt_not (pt_val (pe_call (Ow.ok_l_whole T) (hr.mono (by decide : 1 ≤ 1)) (by rfl) T.d_l_whole.m T.d_l_whole.F.kp T.d_l_whole.b .nil pass0 (pa_cons (pe_ix ix_tup (pv 0) pe_int (fun _ _ => rfl)) pa_nil)))) (pw_or1 (pt_not (pt_val (pe_call (Ow.ok_l_whole T) (hr.mono (by decide : 1 ≤ 1)) (by rfl) T.d_l_whole.m T.d_l_whole.F.kp T.d_l_whole.b .nil pass0 (pa_cons (pe_ix ix_tup (pv 0) pe_int (fun _ _ => rfl)) pa_nil))))))))) (pss_one (ps_ret pe_bl)) pss_nil)
        (pss_one (ps_ret (pe_and (pe_cmpR op_gt (pe_ix ix_tup (pv 0) pe_int (fun _ _ => rfl)) pe_int (nomark _)) (pe_one (pe_cmpR op_eq (pe_call (Ow.ok_l_divisor T) (hr.mono (by decide : 1 ≤ 1)) (by rfl) T.d_l_divisor.m T.d_l_divisor.F.kp T.d_l_divisor.b .nil pass0 (pa_cons (pe_ix ix_tup (pv 0) pe_int (fun _ _ => rfl)) (pa_cons (pe_ix ix_tup (pv 0) pe_int (fun _ _ => rfl)) pa_nil))) pe_int (nomark _))))))), ?_⟩
    refine ⟨_, rfl, ?_⟩
    refine ⟨_, _, _, _, true, rfl, .ty _, .base (.tup c0), kit_ty (by decide +kernel), ?_⟩
    refine ⟨_, rfl, ?_⟩
    refine iteF ?_
    refine ⟨_, rfl, ?_⟩
    refine ⟨_, _, rfl, .inr (SqT.of c0), ?_⟩
    refine ⟨_, rfl, fun len h_len => ?_⟩
    replace h_len : len = 2 := h_len
    refine ⟨rfl, ?_⟩
    refine ⟨_, rfl, ?_⟩
    refine Ow.ifnei (fun h1 => ?_) (fun h1 => ?_)
    · refine iteT ?_
      exact ((by first | assumption | exact Ow.divw64 (by omega) (by omega) | exact Ow.mul0 ⟨by omega, by omega⟩ | exact Ow.mul1 ⟨by omega, by omega⟩ | exact Ow.shl0 (by omega) (by omega) (by omega) | exact ⟨by omega, by omega⟩ | exact ⟨by omega, by omega, by omega⟩ | omega | (simp only [List.length_append, List.length_cons, List.length_nil]; omega) | (subst_vars; omega)) : False).elim
    · refine ⟨_, rfl, ?_⟩
      refine ⟨_, _, _, _, rfl, rfl, (SqT.of c0), (by first | rfl | decide), ?_⟩
      refine ⟨_, rfl, ?_⟩
      refine ⟨_, rfl, ?_⟩
      refine iteF ?_
      refine ⟨_, rfl, ?_⟩
      refine ⟨_, _, _, _, rfl, rfl, (SqT.of c0), (by first | rfl | decide), ?_⟩
      refine ⟨_, rfl, ?_⟩
      refine ⟨_, rfl, ?_⟩
      refine iteF ?_
      refine ⟨_, rfl, ?_⟩
      refine ⟨_, _, _, _, rfl, rfl, (SqT.of c0), (by first | rfl | decide), ?_⟩
      refine ⟨_, _, rfl, rfl, ?_⟩
      refine ⟨_, rfl, ?_⟩
      refine Ow.ifd (fun h2 => ?_) (fun h2 => ?_)
      · refine ⟨_, rfl, ?_⟩
        refine ⟨_, _, _, _, rfl, rfl, (SqT.of c0), (by first | rfl | decide), ?_⟩
        refine ⟨_, rfl, ?_⟩
        refine ⟨_, _, _, _, rfl, rfl, (SqT.of c0), (by first | rfl | decide), ?_⟩
        refine ⟨_, _, rfl, (by first | assumption | exact Ow.divw64 (by omega) (by omega) | exact Ow.mul0 ⟨by omega, by omega⟩ | exact Ow.mul1 ⟨by omega, by omega⟩ | exact Ow.shl0 (by omega) (by omega) (by omega) | exact ⟨by omega, by omega⟩ | exact ⟨by omega, by omega, by omega⟩ | omega | (simp only [List.length_append, List.length_cons, List.length_nil]; omega) | (subst_vars; omega)), c2, fun t_2 h3 h4 h5 => ?_⟩
        refine ⟨rfl, ?_⟩
        refine Ow.eqeqi (by first | assumption | exact Ow.divw64 (by omega) (by omega) | exact Ow.mul0 ⟨by omega, by omega⟩ | exact Ow.mul1 ⟨by omega, by omega⟩ | exact Ow.shl0 (by omega) (by omega) (by omega) | exact ⟨by omega, by omega⟩ | exact ⟨by omega, by omega, by omega⟩ | omega | (simp only [List.length_append, List.length_cons, List.length_nil]; omega) | (subst_vars; omega)) ?_
        exact kont
      · exact ((by first | assumption | exact Ow.divw64 (by omega) (by omega) | exact Ow.mul0 ⟨by omega, by omega⟩ | exact Ow.mul1 ⟨by omega, by omega⟩ | exact Ow.shl0 (by omega) (by omega) (by omega) | exact ⟨by omega, by omega⟩ | exact ⟨by omega, by omega, by omega⟩ | omega | (simp only [List.length_append, List.length_cons, List.length_nil]; omega) | (subst_vars; omega)) : False).elim
theorem ok_l_worth (T : Tx K mg) : FnOk P w K mg base CX0 3 T.d_l_worth.f T.d_l_worth.fd ["_law_found", "_law_top", "_law_bottom"] (sp_l_worth T) := by
  refine T.d_l_worth.F.ok sc_l_worth (fun vs H Q E h => ?_) (fun cdv A outer s H vs Q E hr h => ?_)
  · obtain ⟨found, top, bottom, p, q, rfl, _⟩ := h
    rfl
  · obtain ⟨found, top, bottom, p, q, rfl, c0, c1, c2, c3, c4, c5, c6, c7, kont⟩ := h
    refine ⟨_, (pss_one (ps_ret (pe_and (pe_call (Ow.ok_l_is_fraction T) (hr.mono (by decide : 2 ≤ 2)) (by rfl) T.d_l_is_fraction.m T.d_l_is_fraction.F.kp T.d_l_is_fraction.b .nil pass0 (pa_cons (pv 0) pa_nil)) (pe_one (pe_cmpR op_eq (pe_op Ow.op_mulN (pe_ix ix_tup (pv 0) pe_int (fun _ _ => rfl)) (pv 2)) (pe_op Ow.op_mulN (pv 1) (pe_ix ix_tup (pv 0) pe_int (fun _ _ => rfl))) (nomark _)))))), ?_⟩
    refine ⟨_, rfl, ?_⟩
    refine ⟨_, _, _, rfl, c0, (by first | assumption | exact Ow.divw64 (by omega) (by omega) | exact Ow.mul0 ⟨by omega, by omega⟩ | exact Ow.mul1 ⟨by omega, by omega⟩ | exact Ow.shl0 (by omega) (by omega) (by omega) | exact ⟨by omega, by omega⟩ | exact ⟨by omega, by omega, by omega⟩ | omega | (simp only [List.length_append, List.length_cons, List.length_nil]; omega) | (subst_vars; omega)), c7, (by first | assumption | exact Ow.divw64 (by omega) (by omega) | exact Ow.mul0 ⟨by omega, by omega⟩ | exact Ow.mul1 ⟨by omega, by omega⟩ | exact Ow.shl0 (by omega) (by omega) (by omega) | exact ⟨by omega, by omega⟩ | exact ⟨by omega, by omega, by omega⟩ | omega | (simp only [List.length_append, List.length_cons, List.length_nil]; omega) | (subst_vars; omega)), ?_⟩
    refine ⟨_, rfl, ?_⟩
    refine iteT ?_
    refine ⟨_, rfl, ?_⟩
    refine ⟨_, _, _, _, rfl, rfl, (SqT.of c0), (by first | rfl | decide), ?_⟩
    refine ⟨_, rfl, ?_⟩
    refine ⟨_, _, rfl, rfl, (.inr (Ow.mulx c6 c2 (by decide))), fun m h_m => ?_⟩
    have z_m : Ow.Sz 16000 m := by rw [h_m]; exact (Ow.Sz.mul c6 c2)
    refine ⟨_, rfl, ?_⟩
    refine ⟨_, rfl, ?_⟩
    refine ⟨_, _, _, _, rfl, rfl, (SqT.of c0), (by first | rfl | decide), ?_⟩
    refine ⟨_, _, rfl, rfl, (.inr (Ow.mulx c1 c7 (by decide))), fun m_2 h_m_2 => ?_⟩
    have z_m_2 : Ow.Sz 16000 m_2 := by rw [h_m_2]; exact (Ow.Sz.mul c1 c7)
    refine ⟨rfl, ?_⟩
    refine Ow.eqeqi (by first | assumption | exact Ow.divw64 (by omega) (by omega) | exact Ow.mul0 ⟨by omega, by omega⟩ | exact Ow.mul1 ⟨by omega, by omega⟩ | exact Ow.shl0 (by omega) (by omega) (by omega) | exact ⟨by omega, by omega⟩ | exact ⟨by omega, by omega, by omega⟩ | omega | (simp only [List.length_append, List.length_cons, List.length_nil]; omega) | (subst_vars; omega)) ?_
    exact kont
theorem ok_divisor_of (T : Tx K mg) : FnOk P w K mg base CX0 1 T.d_divisor_of.f T.d_divisor_of.fd ["one", "other"] (sp_divisor_of T) := by
  refine T.d_divisor_of.F.ok sc_divisor_of (fun vs H Q E h => ?_) (fun cdv A outer s H vs Q E hr h => ?_)
  · obtain ⟨one, other, rfl, _⟩ := h
    rfl
  · obtain ⟨one, other, rfl, c0, c1, kont⟩ := h
    refine ⟨_, (pss_cons (ps_set (i := 0) sc_divisor_of.nd rfl (Or.inl rfl) (Ow.pe_nmi (pe_callB call_abs (by rfl) T.z_abs (by decide +kernel) (pa_cons (pv 0) pa_nil))))
        (pss_cons (ps_set (i := 1) sc_divisor_of.nd rfl (Or.inl rfl) (Ow.pe_nmi (pe_callB call_abs (by rfl) T.z_abs (by decide +kernel) (pa_cons (pv 1) pa_nil))))
        (pss_cons (ps_while PassesOwn.never (pt_cmpR op_gt (pv 1) pe_int (nomark _)) (pss_one (ps_par (i := 0) (j := 1) (by rfl) sc_divisor_of.nd rfl rfl (by decide) rfl rfl (pa_cons (pv 1) (pa_cons (pe_op Ow.op_modN (pv 0) (pv 1)) pa_nil)) (by rfl))))
        (pss_one (ps_ret (pv 0)))))), ?_⟩
    refine ⟨_, rfl, ?_⟩
    refine ⟨_, rfl, ?_⟩
    refine ⟨_, rfl, fun ab h_ab => ?_⟩
    have hm_ab := Ow.abs_ite h_ab
    refine ⟨_, rfl, ?_⟩
    refine ⟨_, rfl, ?_⟩
    refine ⟨_, rfl, fun ab_2 h_ab_2 => ?_⟩
    have hm_ab_2 := Ow.abs_ite h_ab_2
    obtain ⟨Wi, h1⟩ : ∃ W : Hp → Nat → L2.St → Hp → Prop, W = fun H0 m σ2 H2 => ∃ (a : Int) (b : Int), m = b.toNat ∧ σ2 = [some (.int (a)), some (.int (b))] ∧ H2 = H0 ∧ (0 ≤ a) ∧ (0 ≤ b) ∧ ((Int.gcd a b : Int) = Int.gcd one other) ∧ True := ⟨_, rfl⟩
    refine ⟨Wi _, ⟨_, by rw [h1]; exact ⟨_, _, rfl, rfl, rfl, (by first | omega | exact congrArg Nat.cast (Ow.gcd_abs h_ab h_ab_2)), (by first | omega | exact congrArg Nat.cast (Ow.gcd_abs h_ab h_ab_2)), (by first | omega | exact congrArg Nat.cast (Ow.gcd_abs h_ab h_ab_2)), trivial⟩⟩, ?_⟩
    intro m σ2 Hn h3
    rw [h1] at h3
    obtain ⟨a, b, rfl, rfl, rfl, h4, h5, h6, _⟩ := h3
    refine ⟨_, rfl, ?_⟩
    refine ⟨_, _, rfl, rfl, ?_⟩
    refine ⟨_, rfl, ?_⟩
    refine Ow.ifd (fun h7 => ?_) (fun h7 => ?_)
    · refine ⟨fun σ3 H3 => ∃ m2, m2 < b.toNat ∧ Wi _ m2 σ3 H3, fun _ _ z => z, ?_⟩
      refine ⟨_, rfl, ?_⟩
      refine ⟨_, rfl, ?_⟩
      refine ⟨_, rfl, ?_⟩
      refine ⟨_, _, rfl, rfl, (by first | assumption | exact Ow.divw64 (by omega) (by omega) | exact Ow.mul0 ⟨by omega, by omega⟩ | exact Ow.mul1 ⟨by omega, by omega⟩ | exact Ow.shl0 (by omega) (by omega) (by omega) | exact ⟨by omega, by omega⟩ | exact ⟨by omega, by omega, by omega⟩ | omega | (simp only [List.length_append, List.length_cons, List.length_nil]; omega) | (subst_vars; omega)), fun r h_r h0_r h1_r => ?_⟩
      refine ⟨_, _, rfl, ?_⟩
      refine ⟨_, ?_, by rw [h1]; exact ⟨_, _, rfl, rfl, rfl, (by first | omega | exact Ow.gcd_step (by assumption) (by assumption) (by assumption) (by assumption)), (by first | omega | exact Ow.gcd_step (by assumption) (by assumption) (by assumption) (by assumption)), (by first | omega | exact Ow.gcd_step (by assumption) (by assumption) (by assumption) (by assumption)), trivial⟩⟩
      first | assumption | exact Ow.divw64 (by omega) (by omega) | exact Ow.mul0 ⟨by omega, by omega⟩ | exact Ow.mul1 ⟨by omega, by omega⟩ | exact Ow.shl0 (by omega) (by omega) (by omega) | exact ⟨by omega, by omega⟩ | exact ⟨by omega, by omega, by omega⟩ | omega | (simp only [List.length_append, List.length_cons, List.length_nil]; omega) | (subst_vars; omega)
    · refine ⟨_, rfl, ?_⟩
      have d0 := Ow.gcd_end (by assumption) (by assumption) (by assumption) (by assumption)
      have d1 := Ow.gcd_size0 c0 c1 d0
      exact kont a (by first | assumption | omega) (by first | assumption | omega) d1.2
theorem ok_lowest (T : Tx K mg) : FnOk P w K mg base CX0 2 T.d_lowest.f T.d_lowest.fd ["top", "bottom"] (sp_lowest T) := by
  refine T.d_lowest.F.ok sc_lowest (fun vs H Q E h => ?_) (fun cdv A outer s H vs Q E hr h => ?_)
  · obtain ⟨top, bottom, rfl, _⟩ := h
    rfl
  · obtain ⟨top, bottom, rfl, c0, c1, c2, kont⟩ := h
    refine ⟨_, (pss_cons (ps_set (i := 2) sc_lowest.nd rfl (Or.inl rfl) (pe_call (Ow.ok_divisor_of T) (hr.mono (by decide : 1 ≤ 1)) (by rfl) T.d_divisor_of.m T.d_divisor_of.F.kp T.d_divisor_of.b .nil pass0 (pa_cons (pv 0) (pa_cons (pv 1) pa_nil))))
        (pss_cons (ps_if (pt_cmpR op_lt (pv 1) pe_int (nomark _)) (pss_one (ps_set (i := 2) sc_lowest.nd rfl (Or.inl rfl) (Ow.pe_nmi (pe_op op_sub pe_int (pv 2))))) pss_nil)
        (pss_one (ps_ret (pe_tup (pa_cons (pe_op Ow.op_divF (pv 0) (pv 2)) (pa_cons (pe_op Ow.op_divF (pv 1) (pv 2)) pa_nil))))))), ?_⟩
    refine ⟨_, rfl, ?_⟩
    refine ⟨_, rfl, ?_⟩
    refine ⟨_, _, rfl, (by first | assumption | exact Ow.divw64 (by omega) (by omega) | exact Ow.mul0 ⟨by omega, by omega⟩ | exact Ow.mul1 ⟨by omega, by omega⟩ | exact Ow.shl0 (by omega) (by omega) (by omega) | exact ⟨by omega, by omega⟩ | exact ⟨by omega, by omega, by omega⟩ | omega | (simp only [List.length_append, List.length_cons, List.length_nil]; omega) | (subst_vars; omega)), c1, fun common h1 h2 h3 => ?_⟩
    refine ⟨_, rfl, ?_⟩
    refine ⟨_, _, rfl, rfl, ?_⟩
    refine ⟨_, rfl, ?_⟩
    refine Ow.ifd (fun h4 => ?_) (fun h4 => ?_)
    · refine ⟨_, rfl, ?_⟩
      refine ⟨_, _, rfl, rfl, ?_⟩
      refine ⟨_, rfl, fun common_2 h_common_2 => ?_⟩
      have z_common_2 : Ow.Sz 8001 common_2 := by rw [h_common_2]; exact (Ow.Sz.sub (Ow.Sz.mono (Ow.Sz.lit (n := 1) (i := 0) (by decide)) (by decide : 1 ≤ 8000)) h3)
      refine ⟨_, rfl, ?_⟩
      refine ⟨_, rfl, ?_⟩
      refine ⟨_, _, rfl, rfl, Ow.divzF (by first | assumption | exact Ow.divw64 (by omega) (by omega) | exact Ow.mul0 ⟨by omega, by omega⟩ | exact Ow.mul1 ⟨by omega, by omega⟩ | exact Ow.shl0 (by omega) (by omega) (by omega) | exact ⟨by omega, by omega⟩ | exact ⟨by omega, by omega, by omega⟩ | omega | (simp only [List.length_append, List.length_cons, List.length_nil]; omega) | (subst_vars; omega)) z_common_2 (by decide) (by decide), fun q h_q => ?_⟩
      refine ⟨_, rfl, ?_⟩
      refine ⟨_, rfl, ?_⟩
      refine ⟨_, _, rfl, rfl, Ow.divzF (by first | assumption | exact Ow.divw64 (by omega) (by omega) | exact Ow.mul0 ⟨by omega, by omega⟩ | exact Ow.mul1 ⟨by omega, by omega⟩ | exact Ow.shl0 (by omega) (by omega) (by omega) | exact ⟨by omega, by omega⟩ | exact ⟨by omega, by omega, by omega⟩ | omega | (simp only [List.length_append, List.length_cons, List.length_nil]; omega) | (subst_vars; omega)) z_common_2 (by decide) (by decide), fun q_2 h_q_2 => ?_⟩
      refine ⟨by show 2 ≤ sizeLine; decide, fun p h_p => ?_⟩
      have d1 := Ow.lowz (t := top) (b := bottom) (g := common) (c := common_2) (p := q) (q := q_2) (by assumption) c0 (by omega) (by assumption) (by assumption)
      exact kont q q_2 (by first | exact d1.1 | exact d1.2.1 | exact d1.2.2.1) (by first | exact d1.1 | exact d1.2.1 | exact d1.2.2.1) (by first | exact d1.1 | exact d1.2.1 | exact d1.2.2.1) (c2.le d1.2.2.2.1) (c1.le d1.2.2.2.2) _ _ (Ow.same_new h_p) h_p upd_same
    · refine ⟨_, rfl, ?_⟩
      refine ⟨_, rfl, ?_⟩
      refine ⟨_, _, rfl, rfl, Ow.divzF (by first | assumption | exact Ow.divw64 (by omega) (by omega) | exact Ow.mul0 ⟨by omega, by omega⟩ | exact Ow.mul1 ⟨by omega, by omega⟩ | exact Ow.shl0 (by omega) (by omega) (by omega) | exact ⟨by omega, by omega⟩ | exact ⟨by omega, by omega, by omega⟩ | omega | (simp only [List.length_append, List.length_cons, List.length_nil]; omega) | (subst_vars; omega)) h3 (by decide) (by decide), fun q_3 h_q_3 => ?_⟩
      refine ⟨_, rfl, ?_⟩
      refine ⟨_, rfl, ?_⟩
      refine ⟨_, _, rfl, rfl, Ow.divzF (by first | assumption | exact Ow.divw64 (by omega) (by omega) | exact Ow.mul0 ⟨by omega, by omega⟩ | exact Ow.mul1 ⟨by omega, by omega⟩ | exact Ow.shl0 (by omega) (by omega) (by omega) | exact ⟨by omega, by omega⟩ | exact ⟨by omega, by omega, by omega⟩ | omega | (simp only [List.length_append, List.length_cons, List.length_nil]; omega) | (subst_vars; omega)) h3 (by decide) (by decide), fun q_4 h_q_4 => ?_⟩
      refine ⟨by show 2 ≤ sizeLine; decide, fun p_2 h_p_2 => ?_⟩
      have d1 := Ow.lowz (t := top) (b := bottom) (g := common) (c := common) (p := q_3) (q := q_4) (by assumption) c0 (by omega) (by assumption) (by assumption)
      exact kont q_3 q_4 (by first | exact d1.1 | exact d1.2.1 | exact d1.2.2.1) (by first | exact d1.1 | exact d1.2.1 | exact d1.2.2.1) (by first | exact d1.1 | exact d1.2.1 | exact d1.2.2.1) (c2.le d1.2.2.2.1) (c1.le d1.2.2.2.2) _ _ (Ow.same_new h_p_2) h_p_2 upd_same
theorem ok_NothingBy___init__ (T : Tx K mg) : FnOk P w K mg base CX0 1 T.i_NothingBy.f T.i_NothingBy.fd ["self"] (sp_NothingBy___init__ T) := by
  refine T.i_NothingBy.F.ok sc_NothingBy___init__ (fun vs H Q E h => ?_) (fun cdv A outer s H vs Q E hr h => ?_)
  · obtain ⟨self, rfl, _⟩ := h
    rfl
  · obtain ⟨self, rfl, c0, kont⟩ := h
    refine ⟨_, (pss_one (ps_expr (Ow.pe_winit (by rfl) T.w_WiseError.m T.w_WiseError.rd T.w_WiseError.cv (pa_cons (pv 0) (pa_cons pe_str pa_nil))))), ?_⟩
    refine ⟨_, rfl, ?_⟩
    refine ⟨_, _, _, rfl, by decide, T.x_NothingBy.oex, c0, ?_⟩
    exact kont
theorem ok_over (T : Tx K mg) : FnOk P w K mg base (L2.CX P w) 3 T.d_over.f T.d_over.fd ["one", "other"] (sp_over T) := by
  refine T.d_over.F.okX sc_over (fun vs H Q E h => ?_) (fun cdv A outer s H vs Q E hr h => ?_)
  · obtain ⟨one, other, a, b, c, d, rfl, _⟩ := h
    rfl
  · obtain ⟨one, other, a, b, c, d, rfl, c0, c1, c2, c3, c4, c5, c6, c7, kr0, kont⟩ := h
    refine ⟨_, (pss_cons (ps_if (pt_cmpR op_eq (pe_ix ix_tup (pv 1) pe_int (fun _ _ => rfl)) pe_int (nomark _)) (pss_one (ps_raise rfl (takes_of rfl rfl rfl rfl) (Ow.pmk_oexN T.x_NothingBy.oex T.i_NothingBy.iC T.i_NothingBy.tI (Ow.ok_NothingBy___init__ T) (hr.mono (by decide : 2 ≤ 2)) T.i_NothingBy.b pass0 (by rfl) T.x_NothingBy.m))) pss_nil)
        (pss_one (ps_ret (pe_call (Ow.ok_lowest T) (hr.mono (by decide : 2 ≤ 2)) (by rfl) T.d_lowest.m T.d_lowest.F.kp T.d_lowest.b .nil pass0 (pa_cons (pe_op Ow.op_mulN (pe_ix ix_tup (pv 0) pe_int (fun _ _ => rfl)) (pe_ix ix_tup (pv 1) pe_int (fun _ _ => rfl))) (pa_cons (pe_op Ow.op_mulN (pe_ix ix_tup (pv 0) pe_int (fun _ _ => rfl)) (pe_ix ix_tup (pv 1) pe_int (fun _ _ => rfl))) pa_nil)))))), ?_⟩
    refine ⟨_, rfl, ?_⟩
    refine ⟨_, _, _, _, rfl, rfl, (SqT.of c4), (by first | rfl | decide), ?_⟩
    refine ⟨rfl, ?_⟩
    refine ⟨_, rfl, ?_⟩
    refine Ow.ifeqi (fun h1 => ?_) (fun h1 => ?_)
    · intro ax h2
      refine ⟨ax, rfl, upd_same, rfl, upd_same, ?_⟩
      rw [Ow.del_upd h2]
      exact kr0 (by first | assumption | exact Ow.divw64 (by omega) (by omega) | exact Ow.mul0 ⟨by omega, by omega⟩ | exact Ow.mul1 ⟨by omega, by omega⟩ | exact Ow.shl0 (by omega) (by omega) (by omega) | exact ⟨by omega, by omega⟩ | exact ⟨by omega, by omega, by omega⟩ | omega | (simp only [List.length_append, List.length_cons, List.length_nil]; omega) | (subst_vars; omega)) _ (Same.refl _)
    · refine ⟨_, rfl, ?_⟩
      refine ⟨_, _, _, _, rfl, rfl, (SqT.of c0), (by first | rfl | decide), ?_⟩
      refine ⟨_, rfl, ?_⟩
      refine ⟨_, _, _, _, rfl, rfl, (SqT.of c4), (by first | rfl | decide), ?_⟩
      refine ⟨_, _, rfl, rfl, (.inr (Ow.mulx c2 c7 (by decide))), fun m h_m => ?_⟩
      have z_m : Ow.Sz 4800 m := by rw [h_m]; exact (Ow.Sz.mul c2 c7)
      refine ⟨_, rfl, ?_⟩
      refine ⟨_, _, _, _, rfl, rfl, (SqT.of c0), (by first | rfl | decide), ?_⟩
      refine ⟨_, rfl, ?_⟩
      refine ⟨_, _, _, _, rfl, rfl, (SqT.of c4), (by first | rfl | decide), ?_⟩
      refine ⟨_, _, rfl, rfl, (.inr (Ow.mulx c3 c6 (by decide))), fun m_2 h_m_2 => ?_⟩
      have z_m_2 : Ow.Sz 4800 m_2 := by rw [h_m_2]; exact (Ow.Sz.mul c3 c6)
      refine ⟨_, _, rfl, (by first | assumption | exact Ow.divw64 (by omega) (by omega) | exact Ow.mul0 ⟨by omega, by omega⟩ | exact Ow.mul1 ⟨by omega, by omega⟩ | exact Ow.shl0 (by omega) (by omega) (by omega) | exact ⟨by omega, by omega⟩ | exact ⟨by omega, by omega, by omega⟩ | omega | (simp only [List.length_append, List.length_cons, List.length_nil]; omega) | (subst_vars; omega) | (subst_vars; exact Int.mul_ne_zero (by omega) (by omega))), (Ow.Sz.mono z_m_2 (by decide : 4800 ≤ 8000)), (Ow.Sz.mono z_m (by decide : 4800 ≤ 8000)), fun p q h3 h4 h5 h6 h7 p_2 Hn h8 h9 h10 => ?_⟩
      exact kont (by first | assumption | exact Ow.divw64 (by omega) (by omega) | exact Ow.mul0 ⟨by omega, by omega⟩ | exact Ow.mul1 ⟨by omega, by omega⟩ | exact Ow.shl0 (by omega) (by omega) (by omega) | exact ⟨by omega, by omega⟩ | exact ⟨by omega, by omega, by omega⟩ | omega | (simp only [List.length_append, List.length_cons, List.length_nil]; omega) | (subst_vars; omega)) p q (by first | assumption | exact Ow.divw64 (by omega) (by omega) | exact Ow.mul0 ⟨by omega, by omega⟩ | exact Ow.mul1 ⟨by omega, by omega⟩ | exact Ow.shl0 (by omega) (by omega) (by omega) | exact ⟨by omega, by omega⟩ | exact ⟨by omega, by omega, by omega⟩ | omega | (simp only [List.length_append, List.length_cons, List.length_nil]; omega) | (subst_vars; omega)) (by first | assumption | exact Ow.divw64 (by omega) (by omega) | exact Ow.mul0 ⟨by omega, by omega⟩ | exact Ow.mul1 ⟨by omega, by omega⟩ | exact Ow.shl0 (by omega) (by omega) (by omega) | exact ⟨by omega, by omega⟩ | exact ⟨by omega, by omega, by omega⟩ | omega | (simp only [List.length_append, List.length_cons, List.length_nil]; omega) | (subst_vars; omega)) (by first | assumption | exact Ow.divw64 (by omega) (by omega) | exact Ow.mul0 ⟨by omega, by omega⟩ | exact Ow.mul1 ⟨by omega, by omega⟩ | exact Ow.shl0 (by omega) (by omega) (by omega) | exact ⟨by omega, by omega⟩ | exact ⟨by omega, by omega, by omega⟩ | omega | (simp only [List.length_append, List.length_cons, List.length_nil]; omega) | (subst_vars; omega)) h6 h7 _ _ h8 h9 h10
theorem ok_l_over (T : Tx K mg) : FnOk P w K mg base CX0 4 T.d_l_over.f T.d_l_over.fd ["_law_one", "_law_other"] (sp_l_over T) := by
  refine T.d_l_over.F.ok sc_l_over (fun vs H Q E h => ?_) (fun cdv A outer s H vs Q E hr h => ?_)
  · obtain ⟨one, other, a, b, c, d, rfl, _⟩ := h
    rfl
  · obtain ⟨one, other, a, b, c, d, rfl, c0, c1, c2, c3, c4, c5, c6, c7, kont⟩ := h
    refine ⟨_, (pss_cons (ps_try_as (i := 3) rfl rfl sc_l_over.nd rfl rfl ⟨rfl, by decide, .inl T.w_WiseError.m⟩ takes0 (fun W pn xe tk _ => (pss_one (ps_set (i := 2) sc_l_over.nd rfl (Or.inl rfl) (pe_callS (Ow.ok_over T) (hr.mono (by decide : 3 ≤ 3)) (by rfl) T.d_over.m T.d_over.F.kp T.d_over.b (fun σ => passAt tk σ) (pa_cons (pv 0) (pa_cons (pv 1) pa_nil)))))) (fun a oe cls d pn hz hf => (pss_one (ps_ret (pe_and (pe_cmpR op_eq (pe_ix (Ow.ix_tupK (K := K) rfl) (pv 1) pe_int (fun _ _ => rfl)) pe_int (nomark _)) (pe_and (pe_callB (Ow.call_isE2 hz hf) (by rfl) T.z_isinstance (by decide +kernel) (pa_cons (pv 3) (pa_cons (pe_glob (v := .ref T.x_NothingBy.C) rfl T.x_NothingBy.m rfl) pa_nil))) (pe_one (pe_not (pe_callB (Ow.call_isE2 hz hf) (by rfl) T.z_isinstance (by decide +kernel) (pa_cons (pv 3) (pa_cons (pe_glob (v := .ref T.x_NoFraction.C) rfl T.x_NoFraction.m rfl) pa_nil)))))))))))
        (pss_cons (ps_if (pt_cmpR op_eq (pe_ix ix_tup (pv 1) pe_int (fun _ _ => rfl)) pe_int (nomark _)) (pss_one (ps_ret pe_bl)) pss_nil)
        (pss_one (ps_ret (pe_call (Ow.ok_l_worth T) (hr.mono (by decide : 3 ≤ 3)) (by rfl) T.d_l_worth.m T.d_l_worth.F.kp T.d_l_worth.b .nil pass0 (pa_cons (pv 2) (pa_cons (pe_op Ow.op_mulN (pe_ix ix_tup (pv 0) pe_int (fun _ _ => rfl)) (pe_ix ix_tup (pv 1) pe_int (fun _ _ => rfl))) (pa_cons (pe_op Ow.op_mulN (pe_ix ix_tup (pv 0) pe_int (fun _ _ => rfl)) (pe_ix ix_tup (pv 1) pe_int (fun _ _ => rfl))) pa_nil)))))))), ?_⟩
    refine ⟨_, rfl, ?_⟩
    refine ⟨_, rfl, ?_⟩
    refine ⟨_, _, _, _, _, _, rfl, c0, (by first | assumption | exact Ow.divw64 (by omega) (by omega) | exact Ow.mul0 ⟨by omega, by omega⟩ | exact Ow.mul1 ⟨by omega, by omega⟩ | exact Ow.shl0 (by omega) (by omega) (by omega) | exact ⟨by omega, by omega⟩ | exact ⟨by omega, by omega, by omega⟩ | omega | (simp only [List.length_append, List.length_cons, List.length_nil]; omega) | (subst_vars; omega)), c2, c3, c4, (by first | assumption | exact Ow.divw64 (by omega) (by omega) | exact Ow.mul0 ⟨by omega, by omega⟩ | exact Ow.mul1 ⟨by omega, by omega⟩ | exact Ow.shl0 (by omega) (by omega) (by omega) | exact ⟨by omega, by omega⟩ | exact ⟨by omega, by omega, by omega⟩ | omega | (simp only [List.length_append, List.length_cons, List.length_nil]; omega) | (subst_vars; omega)), c6, c7, ?_, ?_⟩
    · intro h2 Hn h1
      refine ⟨true, T.exm_NothingBy_WiseError, (fun _ ea _ => ?_), (fun q => nomatch q)⟩
      refine ⟨_, rfl, ?_⟩
      refine ⟨_, _, _, _, rfl, rfl, (SqT.of (h1 _ _ c4)), (by first | rfl | decide), ?_⟩
      refine ⟨rfl, ?_⟩
      refine ⟨_, rfl, ?_⟩
      refine Ow.ifeqi (fun h3 => ?_) (fun h3 => ?_)
      · refine ⟨_, rfl, ?_⟩
        refine ⟨_, _, true, rfl, rfl, T.x_NothingBy.ex, rfl, T.kit_NothingBy_NothingBy, ?_⟩
        refine ⟨_, rfl, ?_⟩
        refine iteT ?_
        refine ⟨_, rfl, ?_⟩
        refine ⟨_, _, false, rfl, rfl, T.x_NothingBy.ex, rfl, T.kit_NothingBy_NoFraction, ?_⟩
        refine ⟨_, rfl, ?_⟩
        exact kont _ h1
      · exact ((by first | assumption | exact Ow.divw64 (by omega) (by omega) | exact Ow.mul0 ⟨by omega, by omega⟩ | exact Ow.mul1 ⟨by omega, by omega⟩ | exact Ow.shl0 (by omega) (by omega) (by omega) | exact ⟨by omega, by omega⟩ | exact ⟨by omega, by omega, by omega⟩ | omega | (simp only [List.length_append, List.length_cons, List.length_nil]; omega) | (subst_vars; omega)) : False).elim
    refine fun h4 p q h5 h6 h7 h8 h9 p_2 Hn_2 h10 h11 h12 => ?_
    refine ⟨_, rfl, ?_⟩
    refine ⟨_, _, _, _, rfl, rfl, (SqT.of (h10 _ _ c4)), (by first | rfl | decide), ?_⟩
    refine ⟨rfl, ?_⟩
    refine ⟨_, rfl, ?_⟩
    refine Ow.ifeqi (fun h13 => ?_) (fun h13 => ?_)
    · exact ((by first | assumption | exact Ow.divw64 (by omega) (by omega) | exact Ow.mul0 ⟨by omega, by omega⟩ | exact Ow.mul1 ⟨by omega, by omega⟩ | exact Ow.shl0 (by omega) (by omega) (by omega) | exact ⟨by omega, by omega⟩ | exact ⟨by omega, by omega, by omega⟩ | omega | (simp only [List.length_append, List.length_cons, List.length_nil]; omega) | (subst_vars; omega)) : False).elim
    · refine ⟨_, rfl, ?_⟩
      refine ⟨_, rfl, ?_⟩
      refine ⟨_, _, _, _, rfl, rfl, (SqT.of (h10 _ _ c0)), (by first | rfl | decide), ?_⟩
      refine ⟨_, rfl, ?_⟩
      refine ⟨_, _, _, _, rfl, rfl, (SqT.of (h10 _ _ c4)), (by first | rfl | decide), ?_⟩
      refine ⟨_, _, rfl, rfl, (.inr (Ow.mulx c2 c7 (by decide))), fun m h_m => ?_⟩
      have z_m : Ow.Sz 4800 m := by rw [h_m]; exact (Ow.Sz.mul c2 c7)
      refine ⟨_, rfl, ?_⟩
      refine ⟨_, _, _, _, rfl, rfl, (SqT.of (h10 _ _ c0)), (by first | rfl | decide), ?_⟩
      refine ⟨_, rfl, ?_⟩
      refine ⟨_, _, _, _, rfl, rfl, (SqT.of (h10 _ _ c4)), (by first | rfl | decide), ?_⟩
      refine ⟨_, _, rfl, rfl, (.inr (Ow.mulx c3 c6 (by decide))), fun m_2 h_m_2 => ?_⟩
      have z_m_2 : Ow.Sz 4800 m_2 := by rw [h_m_2]; exact (Ow.Sz.mul c3 c6)
      refine ⟨_, _, _, _, _, rfl, h12, (Ow.Sz.mono z_m (by decide : 4800 ≤ 8000)), (Ow.Sz.mono z_m_2 (by decide : 4800 ≤ 8000)), (by first | assumption | exact Ow.divw64 (by omega) (by omega) | exact Ow.mul0 ⟨by omega, by omega⟩ | exact Ow.mul1 ⟨by omega, by omega⟩ | exact Ow.shl0 (by omega) (by omega) (by omega) | exact ⟨by omega, by omega⟩ | exact ⟨by omega, by omega, by omega⟩ | omega | (simp only [List.length_append, List.length_cons, List.length_nil]; omega) | (subst_vars; omega)), (by first | assumption | exact Ow.divw64 (by omega) (by omega) | exact Ow.mul0 ⟨by omega, by omega⟩ | exact Ow.mul1 ⟨by omega, by omega⟩ | exact Ow.shl0 (by omega) (by omega) (by omega) | exact ⟨by omega, by omega⟩ | exact ⟨by omega, by omega, by omega⟩ | omega | (simp only [List.length_append, List.length_cons, List.length_nil]; omega) | (subst_vars; omega)), (by first | assumption | exact Ow.divw64 (by omega) (by omega) | exact Ow.mul0 ⟨by omega, by omega⟩ | exact Ow.mul1 ⟨by omega, by omega⟩ | exact Ow.shl0 (by omega) (by omega) (by omega) | exact ⟨by omega, by omega⟩ | exact ⟨by omega, by omega, by omega⟩ | omega | (simp only [List.length_append, List.length_cons, List.length_nil]; omega) | (subst_vars; omega)), h8, h9, ?_⟩
      exact kont _ h10
theorem ok_plus (T : Tx K mg) : FnOk P w K mg base CX0 3 T.d_plus.f T.d_plus.fd ["one", "other"] (sp_plus T) := by
  refine T.d_plus.F.ok sc_plus (fun vs H Q E h => ?_) (fun cdv A outer s H vs Q E hr h => ?_)
  · obtain ⟨one, other, a, b, c, d, rfl, _⟩ := h
    rfl
  · obtain ⟨one, other, a, b, c, d, rfl, c0, c1, c2, c3, c4, c5, c6, c7, kont⟩ := h
    refine ⟨_, (pss_cons (ps_asg (pv 0) (pg_tup rfl (pgs_cons (pg_name (i := 2) sc_plus.nd rfl (Or.inl rfl)) (pgs_cons (pg_name (i := 3) sc_plus.nd rfl (Or.inl rfl)) pgs_nil))))
        (pss_cons (ps_asg (pv 1) (pg_tup rfl (pgs_cons (pg_name (i := 4) sc_plus.nd rfl (Or.inl rfl)) (pgs_cons (pg_name (i := 5) sc_plus.nd rfl (Or.inl rfl)) pgs_nil))))
        (pss_one (ps_ret (pe_call (Ow.ok_lowest T) (hr.mono (by decide : 2 ≤ 2)) (by rfl) T.d_lowest.m T.d_lowest.F.kp T.d_lowest.b .nil pass0 (pa_cons (pe_op op_add (pe_op Ow.op_mulN (pv 2) (pv 5)) (pe_op Ow.op_mulN (pv 4) (pv 3))) (pa_cons (pe_op Ow.op_mulN (pv 3) (pv 5)) pa_nil))))))), ?_⟩
    refine ⟨_, rfl, ?_⟩
    refine ⟨_, _, rfl, (SqT.of c0), rfl, ?_⟩
    refine ⟨_, _, rfl, ?_⟩
    refine ⟨_, _, rfl, ?_⟩
    refine ⟨rfl, ?_⟩
    refine ⟨_, rfl, ?_⟩
    refine ⟨_, _, rfl, (SqT.of c4), rfl, ?_⟩
    refine ⟨_, _, rfl, ?_⟩
    refine ⟨_, _, rfl, ?_⟩
    refine ⟨rfl, ?_⟩
    refine ⟨_, rfl, ?_⟩
    refine ⟨_, rfl, ?_⟩
    refine ⟨_, _, rfl, rfl, (.inr (Ow.mulx c2 c7 (by decide))), fun m h_m => ?_⟩
    have z_m : Ow.Sz 4820 m := by rw [h_m]; exact (Ow.Sz.mul c2 c7)
    refine ⟨_, rfl, ?_⟩
    refine ⟨_, rfl, ?_⟩
    refine ⟨_, _, rfl, rfl, (.inr (Ow.mulx c6 c3 (by decide))), fun m_2 h_m_2 => ?_⟩
    have z_m_2 : Ow.Sz 4820 m_2 := by rw [h_m_2]; exact (Ow.Sz.mul c6 c3)
    refine ⟨_, _, rfl, rfl, ?_⟩
    refine ⟨_, rfl, ?_⟩
    refine ⟨_, rfl, ?_⟩
    refine ⟨_, _, rfl, rfl, (.inr (Ow.mulx c3 c7 (by decide))), fun m_3 h_m_3 => ?_⟩
    have z_m_3 : Ow.Sz 4820 m_3 := by rw [h_m_3]; exact (Ow.Sz.mul c3 c7)
    refine ⟨_, _, rfl, (by first | assumption | exact Ow.divw64 (by omega) (by omega) | exact Ow.mul0 ⟨by omega, by omega⟩ | exact Ow.mul1 ⟨by omega, by omega⟩ | exact Ow.shl0 (by omega) (by omega) (by omega) | exact ⟨by omega, by omega⟩ | exact ⟨by omega, by omega, by omega⟩ | omega | (simp only [List.length_append, List.length_cons, List.length_nil]; omega) | (subst_vars; omega) | (subst_vars; exact Int.mul_ne_zero (by omega) (by omega))), (Ow.Sz.mono z_m_3 (by decide : 4820 ≤ 8000)), (Ow.Sz.mono (Ow.Sz.add z_m z_m_2) (by decide : 4821 ≤ 8000)), fun p q h1 h2 h3 h4 h5 p_2 Hn h6 h7 h8 => ?_⟩
    exact kont p q (by first | assumption | exact Ow.divw64 (by omega) (by omega) | exact Ow.mul0 ⟨by omega, by omega⟩ | exact Ow.mul1 ⟨by omega, by omega⟩ | exact Ow.shl0 (by omega) (by omega) (by omega) | exact ⟨by omega, by omega⟩ | exact ⟨by omega, by omega, by omega⟩ | omega | (simp only [List.length_append, List.length_cons, List.length_nil]; omega) | (subst_vars; omega)) (by first | assumption | exact Ow.divw64 (by omega) (by omega) | exact Ow.mul0 ⟨by omega, by omega⟩ | exact Ow.mul1 ⟨by omega, by omega⟩ | exact Ow.shl0 (by omega) (by omega) (by omega) | exact ⟨by omega, by omega⟩ | exact ⟨by omega, by omega, by omega⟩ | omega | (simp only [List.length_append, List.length_cons, List.length_nil]; omega) | (subst_vars; omega)) (by first | assumption | exact Ow.divw64 (by omega) (by omega) | exact Ow.mul0 ⟨by omega, by omega⟩ | exact Ow.mul1 ⟨by omega, by omega⟩ | exact Ow.shl0 (by omega) (by omega) (by omega) | exact ⟨by omega, by omega⟩ | exact ⟨by omega, by omega, by omega⟩ | omega | (simp only [List.length_append, List.length_cons, List.length_nil]; omega) | (subst_vars; omega)) h4 h5 _ _ h6 h7 h8
theorem ok_minus (T : Tx K mg) : FnOk P w K mg base CX0 4 T.d_minus.f T.d_minus.fd ["one", "other"] (sp_minus T) := by
  refine T.d_minus.F.ok sc_minus (fun vs H Q E h => ?_) (fun cdv A outer s H vs Q E hr h => ?_)
  · obtain ⟨one, other, a, b, c, d, rfl, _⟩ := h
    rfl
  · obtain ⟨one, other, a, b, c, d, rfl, c0, c1, c2, c3, c4, c5, c6, c7, kont⟩ := h
    refine ⟨_, (pss_one (ps_ret (pe_call (Ow.ok_plus T) (hr.mono (by decide : 3 ≤ 3)) (by rfl) T.d_plus.m T.d_plus.F.kp T.d_plus.b .nil pass0 (pa_cons (pv 0) (pa_cons (pe_tup (pa_cons (pe_op op_sub pe_int (pe_ix ix_tup (pv 1) pe_int (fun _ _ => rfl))) (pa_cons (pe_ix ix_tup (pv 1) pe_int (fun _ _ => rfl)) pa_nil))) pa_nil))))), ?_⟩
    refine ⟨_, rfl, ?_⟩
    refine ⟨_, rfl, ?_⟩
    refine ⟨_, _, _, _, rfl, rfl, (SqT.of c4), (by first | rfl | decide), ?_⟩
    refine ⟨_, _, rfl, rfl, ?_⟩
    refine ⟨_, rfl, ?_⟩
    refine ⟨_, _, _, _, rfl, rfl, (SqT.of c4), (by first | rfl | decide), ?_⟩
    refine ⟨by show 2 ≤ sizeLine; decide, fun p h_p => ?_⟩
    refine ⟨_, _, _, _, _, _, rfl, (Ow.at_new h_p c0), (by first | assumption | exact Ow.divw64 (by omega) (by omega) | exact Ow.mul0 ⟨by omega, by omega⟩ | exact Ow.mul1 ⟨by omega, by omega⟩ | exact Ow.shl0 (by omega) (by omega) (by omega) | exact ⟨by omega, by omega⟩ | exact ⟨by omega, by omega, by omega⟩ | omega | (simp only [List.length_append, List.length_cons, List.length_nil]; omega) | (subst_vars; omega)), (Ow.Sz.mono c2 (by decide : 2400 ≤ 2410)), (Ow.Sz.mono c3 (by decide : 2400 ≤ 2410)), upd_same, (by first | assumption | exact Ow.divw64 (by omega) (by omega) | exact Ow.mul0 ⟨by omega, by omega⟩ | exact Ow.mul1 ⟨by omega, by omega⟩ | exact Ow.shl0 (by omega) (by omega) (by omega) | exact ⟨by omega, by omega⟩ | exact ⟨by omega, by omega, by omega⟩ | omega | (simp only [List.length_append, List.length_cons, List.length_nil]; omega) | (subst_vars; omega)), (Ow.Sz.mono (Ow.Sz.sub (Ow.Sz.mono (Ow.Sz.lit (n := 1) (i := 0) (by decide)) (by decide : 1 ≤ 2400)) c6) (by decide : 2401 ≤ 2410)), (Ow.Sz.mono c7 (by decide : 2400 ≤ 2410)), fun p_2 q h1 h2 h3 h4 h5 p_3 Hn h6 h7 h8 => ?_⟩
    have e1 : (0 - c) * b = -(c * b) := by rw [Int.zero_sub, Int.neg_mul]
    rw [e1, ← Int.sub_eq_add_neg] at h1
    exact kont p_2 q (by first | assumption | exact Ow.divw64 (by omega) (by omega) | exact Ow.mul0 ⟨by omega, by omega⟩ | exact Ow.mul1 ⟨by omega, by omega⟩ | exact Ow.shl0 (by omega) (by omega) (by omega) | exact ⟨by omega, by omega⟩ | exact ⟨by omega, by omega, by omega⟩ | omega | (simp only [List.length_append, List.length_cons, List.length_nil]; omega) | (subst_vars; omega)) (by first | assumption | exact Ow.divw64 (by omega) (by omega) | exact Ow.mul0 ⟨by omega, by omega⟩ | exact Ow.mul1 ⟨by omega, by omega⟩ | exact Ow.shl0 (by omega) (by omega) (by omega) | exact ⟨by omega, by omega⟩ | exact ⟨by omega, by omega, by omega⟩ | omega | (simp only [List.length_append, List.length_cons, List.length_nil]; omega) | (subst_vars; omega)) (by first | assumption | exact Ow.divw64 (by omega) (by omega) | exact Ow.mul0 ⟨by omega, by omega⟩ | exact Ow.mul1 ⟨by omega, by omega⟩ | exact Ow.shl0 (by omega) (by omega) (by omega) | exact ⟨by omega, by omega⟩ | exact ⟨by omega, by omega, by omega⟩ | omega | (simp only [List.length_append, List.length_cons, List.length_nil]; omega) | (subst_vars; omega)) h4 h5 _ _ ((Ow.same_new h_p).trans h6) (Same.free (Ow.same_new h_p) h7) h8
theorem ok_times (T : Tx K mg) : FnOk P w K mg base CX0 3 T.d_times.f T.d_times.fd ["one", "other"] (sp_times T) := by
  refine T.d_times.F.ok sc_times (fun vs H Q E h => ?_) (fun cdv A outer s H vs Q E hr h => ?_)
  · obtain ⟨one, other, a, b, c, d, rfl, _⟩ := h
    rfl
  · obtain ⟨one, other, a, b, c, d, rfl, c0, c1, c2, c3, c4, c5, c6, c7, kont⟩ := h
    refine ⟨_, (pss_one (ps_ret (pe_call (Ow.ok_lowest T) (hr.mono (by decide : 2 ≤ 2)) (by rfl) T.d_lowest.m T.d_lowest.F.kp T.d_lowest.b .nil pass0 (pa_cons (pe_op Ow.op_mulN (pe_ix ix_tup (pv 0) pe_int (fun _ _ => rfl)) (pe_ix ix_tup (pv 1) pe_int (fun _ _ => rfl))) (pa_cons (pe_op Ow.op_mulN (pe_ix ix_tup (pv 0) pe_int (fun _ _ => rfl)) (pe_ix ix_tup (pv 1) pe_int (fun _ _ => rfl))) pa_nil))))), ?_⟩
    refine ⟨_, rfl, ?_⟩
    refine ⟨_, _, _, _, rfl, rfl, (SqT.of c0), (by first | rfl | decide), ?_⟩
    refine ⟨_, rfl, ?_⟩
    refine ⟨_, _, _, _, rfl, rfl, (SqT.of c4), (by first | rfl | decide), ?_⟩
    refine ⟨_, _, rfl, rfl, (.inr (Ow.mulx c2 c6 (by decide))), fun m h_m => ?_⟩
    have z_m : Ow.Sz 4800 m := by rw [h_m]; exact (Ow.Sz.mul c2 c6)
    refine ⟨_, rfl, ?_⟩
    refine ⟨_, _, _, _, rfl, rfl, (SqT.of c0), (by first | rfl | decide), ?_⟩
    refine ⟨_, rfl, ?_⟩
    refine ⟨_, _, _, _, rfl, rfl, (SqT.of c4), (by first | rfl | decide), ?_⟩
    refine ⟨_, _, rfl, rfl, (.inr (Ow.mulx c3 c7 (by decide))), fun m_2 h_m_2 => ?_⟩
    have z_m_2 : Ow.Sz 4800 m_2 := by rw [h_m_2]; exact (Ow.Sz.mul c3 c7)
    refine ⟨_, _, rfl, (by first | assumption | exact Ow.divw64 (by omega) (by omega) | exact Ow.mul0 ⟨by omega, by omega⟩ | exact Ow.mul1 ⟨by omega, by omega⟩ | exact Ow.shl0 (by omega) (by omega) (by omega) | exact ⟨by omega, by omega⟩ | exact ⟨by omega, by omega, by omega⟩ | omega | (simp only [List.length_append, List.length_cons, List.length_nil]; omega) | (subst_vars; omega) | (subst_vars; exact Int.mul_ne_zero (by omega) (by omega))), (Ow.Sz.mono z_m_2 (by decide : 4800 ≤ 8000)), (Ow.Sz.mono z_m (by decide : 4800 ≤ 8000)), fun p q h1 h2 h3 h4 h5 p_2 Hn h6 h7 h8 => ?_⟩
    exact kont p q (by first | assumption | exact Ow.divw64 (by omega) (by omega) | exact Ow.mul0 ⟨by omega, by omega⟩ | exact Ow.mul1 ⟨by omega, by omega⟩ | exact Ow.shl0 (by omega) (by omega) (by omega) | exact ⟨by omega, by omega⟩ | exact ⟨by omega, by omega, by omega⟩ | omega | (simp only [List.length_append, List.length_cons, List.length_nil]; omega) | (subst_vars; omega)) (by first | assumption | exact Ow.divw64 (by omega) (by omega) | exact Ow.mul0 ⟨by omega, by omega⟩ | exact Ow.mul1 ⟨by omega, by omega⟩ | exact Ow.shl0 (by omega) (by omega) (by omega) | exact ⟨by omega, by omega⟩ | exact ⟨by omega, by omega, by omega⟩ | omega | (simp only [List.length_append, List.length_cons, List.length_nil]; omega) | (subst_vars; omega)) (by first | assumption | exact Ow.divw64 (by omega) (by omega) | exact Ow.mul0 ⟨by omega, by omega⟩ | exact Ow.mul1 ⟨by omega, by omega⟩ | exact Ow.shl0 (by omega) (by omega) (by omega) | exact ⟨by omega, by omega⟩ | exact ⟨by omega, by omega, by omega⟩ | omega | (simp only [List.length_append, List.length_cons, List.length_nil]; omega) | (subst_vars; omega)) h4 h5 _ _ h6 h7 h8
theorem ok_l_pair (T : Tx K mg) : FnOk P w K mg base CX0 5 T.d_l_pair.f T.d_l_pair.fd ["_law_one", "_law_other"] (sp_l_pair T) := by
  refine T.d_l_pair.F.ok sc_l_pair (fun vs H Q E h => ?_) (fun cdv A outer s H vs Q E hr h => ?_)
  · obtain ⟨one, other, a, b, c, d, rfl, _⟩ := h
    rfl
  · obtain ⟨one, other, a, b, c, d, rfl, c0, c1, c2, c3, c4, c5, c6, c7, kont⟩ := h
    refine ⟨_, (pss_cons (ps_asg (pv 0) (pg_tup rfl (pgs_cons (pg_name (i := 2) sc_l_pair.nd rfl (Or.inl rfl)) (pgs_cons (pg_name (i := 3) sc_l_pair.nd rfl (Or.inl rfl)) pgs_nil))))
        (pss_cons (ps_asg (pv 1) (pg_tup rfl (pgs_cons (pg_name (i := 4) sc_l_pair.nd rfl (Or.inl rfl)) (pgs_cons (pg_name (i := 5) sc_l_pair.nd rfl (Or.inl rfl)) pgs_nil))))
        (pss_cons (ps_if (PW.pt (pw_or (pt_not (pt_val (pe_call (Ow.ok_l_over T) (hr.mono (by decide : 4 ≤ 4)) (by rfl) T.d_l_over.m T.d_l_over.F.kp T.d_l_over.b .nil pass0 (pa_cons (pv 0) (pa_cons (pv 1) pa_nil))))) (pw_or1 (pt_not (pt_val (pe_call (Ow.ok_l_worth T) (hr.mono (by decide : 3 ≤ 4)) (by rfl) T.d_l_worth.m T.d_l_worth.F.kp T.d_l_worth.b .nil pass0 (pa_cons (pe_call (Ow.ok_plus T) (hr.mono (by decide : 3 ≤ 4)) (by rfl) T.d_plus.m T.d_plus.F.kp T.d_plus.b .nil pass0 (pa_cons (pv 0) (pa_cons (pv 1) pa_nil))) (pa_cons (pe_op op_add (pe_op Ow.op_mulN (pv 2) (pv 5)) (pe_op Ow.op_mulN (pv 4) (pv 3))) (pa_cons (pe_op Ow.op_mulN (pv 3) (pv 5)) pa_nil))))))))) (pss_one (ps_ret pe_bl)) pss_nil)
        (pss_cons (ps_if (PW.pt (pw_or (pt_not (pt_val (pe_call (Ow.ok_l_worth T) (hr.mono (by decide : 3 ≤ 4)) (by rfl) T.d_l_worth.m T.d_l_worth.F.kp T.d_l_worth.b .nil pass0 (pa_cons (pe_call (Ow.ok_minus T) (hr.mono (by decide : 4 ≤ 4)) (by rfl) T.d_minus.m T.d_minus.F.kp T.d_minus.b .nil pass0 (pa_cons (pv 0) (pa_cons (pv 1) pa_nil))) (pa_cons (pe_op op_sub (pe_op Ow.op_mulN (pv 2) (pv 5)) (pe_op Ow.op_mulN (pv 4) (pv 3))) (pa_cons (pe_op Ow.op_mulN (pv 3) (pv 5)) pa_nil)))))) (pw_or1 (pt_not (pt_val (pe_call (Ow.ok_l_worth T) (hr.mono (by decide : 3 ≤ 4)) (by rfl) T.d_l_worth.m T.d_l_worth.F.kp T.d_l_worth.b .nil pass0 (pa_cons (pe_call (Ow.ok_times T) (hr.mono (by decide : 3 ≤ 4)) (by rfl) T.d_times.m T.d_times.F.kp T.d_times.b .nil pass0 (pa_cons (pv 0) (pa_cons (pv 1) pa_nil))) (pa_cons (pe_op Ow.op_mulN (pv 2) (pv 4)) (pa_cons (pe_op Ow.op_mulN (pv 3) (pv 5)) pa_nil))))))))) (pss_one (ps_ret pe_bl)) pss_nil)
        (pss_cons (ps_set (i := 6) sc_l_pair.nd rfl (Or.inl rfl) (pe_call (Ow.ok_less T) (hr.mono (by decide : 1 ≤ 4)) (by rfl) T.d_less.m T.d_less.F.kp T.d_less.b .nil pass0 (pa_cons (pv 0) (pa_cons (pv 1) pa_nil))))
        (pss_one (ps_ret (pe_and (pe_callB call_isi (by rfl) T.z_isinstance (by decide +kernel) (pa_cons (pv 6) (pa_cons (pe_bltn (v := .ty "bool") (by rfl) T.z_bool (by decide +kernel) rfl) pa_nil))) (pe_one (pe_cmpR op_eq (pv 6) (pe_cmpR op_lt (pe_op Ow.op_mulN (pv 2) (pv 5)) (pe_op Ow.op_mulN (pv 4) (pv 3)) (nomark _)) (nomark _))))))))))), ?_⟩
    refine ⟨_, rfl, ?_⟩
    refine ⟨_, _, rfl, (SqT.of c0), rfl, ?_⟩
    refine ⟨_, _, rfl, ?_⟩
    refine ⟨_, _, rfl, ?_⟩
    refine ⟨rfl, ?_⟩
    refine ⟨_, rfl, ?_⟩
    refine ⟨_, _, rfl, (SqT.of c4), rfl, ?_⟩
    refine ⟨_, _, rfl, ?_⟩
    refine ⟨_, _, rfl, ?_⟩
    refine ⟨rfl, ?_⟩
    refine ⟨_, rfl, ?_⟩
    refine ⟨_, rfl, ?_⟩
    refine ⟨_, _, _, _, _, _, rfl, c0, (by first | assumption | exact Ow.divw64 (by omega) (by omega) | exact Ow.mul0 ⟨by omega, by omega⟩ | exact Ow.mul1 ⟨by omega, by omega⟩ | exact Ow.shl0 (by omega) (by omega) (by omega) | exact ⟨by omega, by omega⟩ | exact ⟨by omega, by omega, by omega⟩ | omega | (simp only [List.length_append, List.length_cons, List.length_nil]; omega) | (subst_vars; omega)), c2, c3, c4, (by first | assumption | exact Ow.divw64 (by omega) (by omega) | exact Ow.mul0 ⟨by omega, by omega⟩ | exact Ow.mul1 ⟨by omega, by omega⟩ | exact Ow.shl0 (by omega) (by omega) (by omega) | exact ⟨by omega, by omega⟩ | exact ⟨by omega, by omega, by omega⟩ | omega | (simp only [List.length_append, List.length_cons, List.length_nil]; omega) | (subst_vars; omega)), c6, c7, fun Hn h1 => ?_⟩
    refine ⟨_, rfl, ?_⟩
    refine iteF ?_
    refine ⟨_, rfl, ?_⟩
    refine ⟨_, rfl, ?_⟩
    refine ⟨_, _, _, _, _, _, rfl, (h1 _ _ c0), (by first | assumption | exact Ow.divw64 (by omega) (by omega) | exact Ow.mul0 ⟨by omega, by omega⟩ | exact Ow.mul1 ⟨by omega, by omega⟩ | exact Ow.shl0 (by omega) (by omega) (by omega) | exact ⟨by omega, by omega⟩ | exact ⟨by omega, by omega, by omega⟩ | omega | (simp only [List.length_append, List.length_cons, List.length_nil]; omega) | (subst_vars; omega)), (Ow.Sz.mono c2 (by decide : 2400 ≤ 2410)), (Ow.Sz.mono c3 (by decide : 2400 ≤ 2410)), (h1 _ _ c4), (by first | assumption | exact Ow.divw64 (by omega) (by omega) | exact Ow.mul0 ⟨by omega, by omega⟩ | exact Ow.mul1 ⟨by omega, by omega⟩ | exact Ow.shl0 (by omega) (by omega) (by omega) | exact ⟨by omega, by omega⟩ | exact ⟨by omega, by omega, by omega⟩ | omega | (simp only [List.length_append, List.length_cons, List.length_nil]; omega) | (subst_vars; omega)), (Ow.Sz.mono c6 (by decide : 2400 ≤ 2410)), (Ow.Sz.mono c7 (by decide : 2400 ≤ 2410)), fun p q h2 h3 h4 h5 h6 p_2 Hn_2 h7 h8 h9 => ?_⟩
    refine ⟨_, rfl, ?_⟩
    refine ⟨_, rfl, ?_⟩
    refine ⟨_, _, rfl, rfl, (.inr (Ow.mulx c2 c7 (by decide))), fun m h_m => ?_⟩
    have z_m : Ow.Sz 4800 m := by rw [h_m]; exact (Ow.Sz.mul c2 c7)
    refine ⟨_, rfl, ?_⟩
    refine ⟨_, rfl, ?_⟩
    refine ⟨_, _, rfl, rfl, (.inr (Ow.mulx c6 c3 (by decide))), fun m_2 h_m_2 => ?_⟩
    have z_m_2 : Ow.Sz 4800 m_2 := by rw [h_m_2]; exact (Ow.Sz.mul c6 c3)
    refine ⟨_, _, rfl, rfl, ?_⟩
    refine ⟨_, rfl, ?_⟩
    refine ⟨_, rfl, ?_⟩
    refine ⟨_, _, rfl, rfl, (.inr (Ow.mulx c3 c7 (by decide))), fun m_3 h_m_3 => ?_⟩
    have z_m_3 : Ow.Sz 4800 m_3 := by rw [h_m_3]; exact (Ow.Sz.mul c3 c7)
    refine ⟨_, _, _, _, _, rfl, h9, (Ow.Sz.mono (Ow.Sz.add z_m z_m_2) (by decide : 4801 ≤ 8000)), (Ow.Sz.mono z_m_3 (by decide : 4800 ≤ 8000)), (by first | assumption | exact Ow.divw64 (by omega) (by omega) | exact Ow.mul0 ⟨by omega, by omega⟩ | exact Ow.mul1 ⟨by omega, by omega⟩ | exact Ow.shl0 (by omega) (by omega) (by omega) | exact ⟨by omega, by omega⟩ | exact ⟨by omega, by omega, by omega⟩ | omega | (simp only [List.length_append, List.length_cons, List.length_nil]; omega) | (subst_vars; omega)), (by first | assumption | exact Ow.divw64 (by omega) (by omega) | exact Ow.mul0 ⟨by omega, by omega⟩ | exact Ow.mul1 ⟨by omega, by omega⟩ | exact Ow.shl0 (by omega) (by omega) (by omega) | exact ⟨by omega, by omega⟩ | exact ⟨by omega, by omega, by omega⟩ | omega | (simp only [List.length_append, List.length_cons, List.length_nil]; omega) | (subst_vars; omega)), (by first | assumption | exact Ow.divw64 (by omega) (by omega) | exact Ow.mul0 ⟨by omega, by omega⟩ | exact Ow.mul1 ⟨by omega, by omega⟩ | exact Ow.shl0 (by omega) (by omega) (by omega) | exact ⟨by omega, by omega⟩ | exact ⟨by omega, by omega, by omega⟩ | omega | (simp only [List.length_append, List.length_cons, List.length_nil]; omega) | (subst_vars; omega)), h5, h6, ?_⟩
    refine ⟨_, rfl, ?_⟩
    refine iteF ?_
    refine ⟨_, rfl, ?_⟩
    refine ⟨_, rfl, ?_⟩
    refine ⟨_, _, _, _, _, _, rfl, (h7 _ _ (h1 _ _ c0)), (by first | assumption | exact Ow.divw64 (by omega) (by omega) | exact Ow.mul0 ⟨by omega, by omega⟩ | exact Ow.mul1 ⟨by omega, by omega⟩ | exact Ow.shl0 (by omega) (by omega) (by omega) | exact ⟨by omega, by omega⟩ | exact ⟨by omega, by omega, by omega⟩ | omega | (simp only [List.length_append, List.length_cons, List.length_nil]; omega) | (subst_vars; omega)), c2, c3, (h7 _ _ (h1 _ _ c4)), (by first | assumption | exact Ow.divw64 (by omega) (by omega) | exact Ow.mul0 ⟨by omega, by omega⟩ | exact Ow.mul1 ⟨by omega, by omega⟩ | exact Ow.shl0 (by omega) (by omega) (by omega) | exact ⟨by omega, by omega⟩ | exact ⟨by omega, by omega, by omega⟩ | omega | (simp only [List.length_append, List.length_cons, List.length_nil]; omega) | (subst_vars; omega)), c6, c7, fun p_3 q_2 h10 h11 h12 h13 h14 p_4 Hn_3 h15 h16 h17 => ?_⟩
    refine ⟨_, rfl, ?_⟩
    refine ⟨_, rfl, ?_⟩
    refine ⟨_, _, rfl, rfl, (.inr (Ow.mulx c2 c7 (by decide))), fun m_4 h_m_4 => ?_⟩
    have z_m_4 : Ow.Sz 4800 m_4 := by rw [h_m_4]; exact (Ow.Sz.mul c2 c7)
    refine ⟨_, rfl, ?_⟩
    refine ⟨_, rfl, ?_⟩
    refine ⟨_, _, rfl, rfl, (.inr (Ow.mulx c6 c3 (by decide))), fun m_5 h_m_5 => ?_⟩
    have z_m_5 : Ow.Sz 4800 m_5 := by rw [h_m_5]; exact (Ow.Sz.mul c6 c3)
    refine ⟨_, _, rfl, rfl, ?_⟩
    refine ⟨_, rfl, ?_⟩
    refine ⟨_, rfl, ?_⟩
    refine ⟨_, _, rfl, rfl, (.inr (Ow.mulx c3 c7 (by decide))), fun m_6 h_m_6 => ?_⟩
    have z_m_6 : Ow.Sz 4800 m_6 := by rw [h_m_6]; exact (Ow.Sz.mul c3 c7)
    refine ⟨_, _, _, _, _, rfl, h17, (Ow.Sz.mono (Ow.Sz.sub z_m_4 z_m_5) (by decide : 4801 ≤ 8000)), (Ow.Sz.mono z_m_6 (by decide : 4800 ≤ 8000)), (by first | assumption | exact Ow.divw64 (by omega) (by omega) | exact Ow.mul0 ⟨by omega, by omega⟩ | exact Ow.mul1 ⟨by omega, by omega⟩ | exact Ow.shl0 (by omega) (by omega) (by omega) | exact ⟨by omega, by omega⟩ | exact ⟨by omega, by omega, by omega⟩ | omega | (simp only [List.length_append, List.length_cons, List.length_nil]; omega) | (subst_vars; omega)), (by first | assumption | exact Ow.divw64 (by omega) (by omega) | exact Ow.mul0 ⟨by omega, by omega⟩ | exact Ow.mul1 ⟨by omega, by omega⟩ | exact Ow.shl0 (by omega) (by omega) (by omega) | exact ⟨by omega, by omega⟩ | exact ⟨by omega, by omega, by omega⟩ | omega | (simp only [List.length_append, List.length_cons, List.length_nil]; omega) | (subst_vars; omega)), (by first | assumption | exact Ow.divw64 (by omega) (by omega) | exact Ow.mul0 ⟨by omega, by omega⟩ | exact Ow.mul1 ⟨by omega, by omega⟩ | exact Ow.shl0 (by omega) (by omega) (by omega) | exact ⟨by omega, by omega⟩ | exact ⟨by omega, by omega, by omega⟩ | omega | (simp only [List.length_append, List.length_cons, List.length_nil]; omega) | (subst_vars; omega)), h13, h14, ?_⟩
    refine ⟨_, rfl, ?_⟩
    refine iteF ?_
    refine ⟨_, rfl, ?_⟩
    refine ⟨_, rfl, ?_⟩
    refine ⟨_, _, _, _, _, _, rfl, (h15 _ _ (h7 _ _ (h1 _ _ c0))), (by first | assumption | exact Ow.divw64 (by omega) (by omega) | exact Ow.mul0 ⟨by omega, by omega⟩ | exact Ow.mul1 ⟨by omega, by omega⟩ | exact Ow.shl0 (by omega) (by omega) (by omega) | exact ⟨by omega, by omega⟩ | exact ⟨by omega, by omega, by omega⟩ | omega | (simp only [List.length_append, List.length_cons, List.length_nil]; omega) | (subst_vars; omega)), c2, c3, (h15 _ _ (h7 _ _ (h1 _ _ c4))), (by first | assumption | exact Ow.divw64 (by omega) (by omega) | exact Ow.mul0 ⟨by omega, by omega⟩ | exact Ow.mul1 ⟨by omega, by omega⟩ | exact Ow.shl0 (by omega) (by omega) (by omega) | exact ⟨by omega, by omega⟩ | exact ⟨by omega, by omega, by omega⟩ | omega | (simp only [List.length_append, List.length_cons, List.length_nil]; omega) | (subst_vars; omega)), c6, c7, fun p_5 q_3 h18 h19 h20 h21 h22 p_6 Hn_4 h23 h24 h25 => ?_⟩
    refine ⟨_, rfl, ?_⟩
    refine ⟨_, rfl, ?_⟩
    refine ⟨_, _, rfl, rfl, (.inr (Ow.mulx c2 c6 (by decide))), fun m_7 h_m_7 => ?_⟩
    have z_m_7 : Ow.Sz 4800 m_7 := by rw [h_m_7]; exact (Ow.Sz.mul c2 c6)
    refine ⟨_, rfl, ?_⟩
    refine ⟨_, rfl, ?_⟩
    refine ⟨_, _, rfl, rfl, (.inr (Ow.mulx c3 c7 (by decide))), fun m_8 h_m_8 => ?_⟩
    have z_m_8 : Ow.Sz 4800 m_8 := by rw [h_m_8]; exact (Ow.Sz.mul c3 c7)
    refine ⟨_, _, _, _, _, rfl, h25, (Ow.Sz.mono z_m_7 (by decide : 4800 ≤ 8000)), (Ow.Sz.mono z_m_8 (by decide : 4800 ≤ 8000)), (by first | assumption | exact Ow.divw64 (by omega) (by omega) | exact Ow.mul0 ⟨by omega, by omega⟩ | exact Ow.mul1 ⟨by omega, by omega⟩ | exact Ow.shl0 (by omega) (by omega) (by omega) | exact ⟨by omega, by omega⟩ | exact ⟨by omega, by omega, by omega⟩ | omega | (simp only [List.length_append, List.length_cons, List.length_nil]; omega) | (subst_vars; omega)), (by first | assumption | exact Ow.divw64 (by omega) (by omega) | exact Ow.mul0 ⟨by omega, by omega⟩ | exact Ow.mul1 ⟨by omega, by omega⟩ | exact Ow.shl0 (by omega) (by omega) (by omega) | exact ⟨by omega, by omega⟩ | exact ⟨by omega, by omega, by omega⟩ | omega | (simp only [List.length_append, List.length_cons, List.length_nil]; omega) | (subst_vars; omega)), (by first | assumption | exact Ow.divw64 (by omega) (by omega) | exact Ow.mul0 ⟨by omega, by omega⟩ | exact Ow.mul1 ⟨by omega, by omega⟩ | exact Ow.shl0 (by omega) (by omega) (by omega) | exact ⟨by omega, by omega⟩ | exact ⟨by omega, by omega, by omega⟩ | omega | (simp only [List.length_append, List.length_cons, List.length_nil]; omega) | (subst_vars; omega)), h21, h22, ?_⟩
    refine ⟨_, rfl, ?_⟩
    refine iteF ?_
    refine ⟨_, rfl, ?_⟩
    refine ⟨_, rfl, ?_⟩
    refine ⟨_, _, _, _, _, _, rfl, (h23 _ _ (h15 _ _ (h7 _ _ (h1 _ _ c0)))), (by first | assumption | exact Ow.divw64 (by omega) (by omega) | exact Ow.mul0 ⟨by omega, by omega⟩ | exact Ow.mul1 ⟨by omega, by omega⟩ | exact Ow.shl0 (by omega) (by omega) (by omega) | exact ⟨by omega, by omega⟩ | exact ⟨by omega, by omega, by omega⟩ | omega | (simp only [List.length_append, List.length_cons, List.length_nil]; omega) | (subst_vars; omega)), c2, c3, (h23 _ _ (h15 _ _ (h7 _ _ (h1 _ _ c4)))), (by first | assumption | exact Ow.divw64 (by omega) (by omega) | exact Ow.mul0 ⟨by omega, by omega⟩ | exact Ow.mul1 ⟨by omega, by omega⟩ | exact Ow.shl0 (by omega) (by omega) (by omega) | exact ⟨by omega, by omega⟩ | exact ⟨by omega, by omega, by omega⟩ | omega | (simp only [List.length_append, List.length_cons, List.length_nil]; omega) | (subst_vars; omega)), c6, c7, ?_⟩
    refine ⟨_, rfl, ?_⟩
    refine ⟨_, _, _, _, true, rfl, .ty _, .base (.bl _), kit_ty (by decide +kernel), ?_⟩
    refine ⟨_, rfl, ?_⟩
    refine iteT ?_
    refine ⟨_, rfl, ?_⟩
    refine ⟨_, rfl, ?_⟩
    refine ⟨_, rfl, ?_⟩
    refine ⟨_, _, rfl, rfl, (.inr (Ow.mulx c2 c7 (by decide))), fun m_9 h_m_9 => ?_⟩
    have z_m_9 : Ow.Sz 4800 m_9 := by rw [h_m_9]; exact (Ow.Sz.mul c2 c7)
    refine ⟨_, rfl, ?_⟩
    refine ⟨_, rfl, ?_⟩
    refine ⟨_, _, rfl, rfl, (.inr (Ow.mulx c6 c3 (by decide))), fun m_10 h_m_10 => ?_⟩
    have z_m_10 : Ow.Sz 4800 m_10 := by rw [h_m_10]; exact (Ow.Sz.mul c6 c3)
    refine ⟨_, _, rfl, rfl, ?_⟩
    refine ⟨rfl, ?_⟩
    refine Ow.eqeqb (by (subst_vars; rfl)) ?_
    exact kont _ (((h1.trans h7).trans h15).trans h23)
theorem ok_law (T : Tx K mg) : FnOk P w K mg base CX0 6 T.d_law.f T.d_law.fd ["_law_script"] (sp_law K) := by
  refine T.d_law.F.ok sc_law (fun vs H Q E h => ?_) (fun cdv A outer s H vs Q E hr h => ?_)
  · obtain ⟨script, ns, rfl, _⟩ := h
    rfl
  · obtain ⟨script, ns, rfl, c0, c1, kont⟩ := h
    refine ⟨_, (pss_cons (ps_for PassesOwn.never rfl (pi_range1 (by rfl) T.z_range (pa_cons (Ow.pe_nmi (pe_callB (call_max2 rfl) (by rfl) T.z_max (by decide +kernel) (pa_cons pe_int (pa_cons (Ow.pe_nmi (pe_callB (call_min2 rfl) (by rfl) T.z_min (by decide +kernel) (pa_cons pe_int (pa_cons (Ow.pe_nmi (pe_callB call_len_seq (by rfl) T.z_len (by decide +kernel) (pa_cons (pv 0) pa_nil))) pa_nil)))) pa_nil)))) pa_nil)) (pg_name (i := 1) sc_law.nd rfl (Or.inl rfl)) (pss_cons (ps_set (i := 2) sc_law.nd rfl (Or.inl rfl) (pe_call (Ow.ok_l_begun T) (hr.mono (by decide : 1 ≤ 5)) (by rfl) T.d_l_begun.m T.d_l_begun.F.kp T.d_l_begun.b .nil pass0 (pa_cons (pe_call (Ow.ok_l_cell T) (hr.mono (by decide : 1 ≤ 5)) (by rfl) T.d_l_cell.m T.d_l_cell.F.kp T.d_l_cell.b .nil pass0 (pa_cons (pv 0) (pa_cons (pv 1) pa_nil))) pa_nil)))
        (pss_cons (ps_set (i := 3) sc_law.nd rfl (Or.inl rfl) (pe_ix ix_list (pe_lst (pa_cons pe_int (pa_cons pe_int pa_nil))) (pe_callTy Ow.call_intb (by rfl) T.z_int (by decide +kernel) (pa_cons (pe_cmpR op_eq (pv 1) pe_int (nomark _)) pa_nil)) (fun _ _ => rfl)))
        (pss_cons (ps_set (i := 4) sc_law.nd rfl (Or.inl rfl) (pe_call (Ow.ok_l_fraction T) (hr.mono (by decide : 3 ≤ 5)) (by rfl) T.d_l_fraction.m T.d_l_fraction.F.kp T.d_l_fraction.b .nil pass0 (pa_cons (pv 2) (pa_cons (pv 3) pa_nil))))
        (pss_cons (ps_set (i := 5) sc_law.nd rfl (Or.inl rfl) (pe_call (Ow.ok_l_fraction T) (hr.mono (by decide : 3 ≤ 5)) (by rfl) T.d_l_fraction.m T.d_l_fraction.F.kp T.d_l_fraction.b .nil pass0 (pa_cons (pv 2) (pa_cons (pv 3) pa_nil))))
        (pss_cons (ps_set (i := 6) sc_law.nd rfl (Or.inl rfl) (pe_call (Ow.ok_l_draw T) (hr.mono (by decide : 1 ≤ 5)) (by rfl) T.d_l_draw.m T.d_l_draw.F.kp T.d_l_draw.b .nil pass0 (pa_cons (pv 2) (pa_cons pe_int pa_nil))))
        (pss_cons (ps_if (pt_cmpR op_eq (pv 6) pe_int (nomark _)) (pss_one (ps_set (i := 5) sc_law.nd rfl (Or.inl rfl) (pv 4))) pss_nil)
        (pss_cons (ps_if (pt_cmpR op_eq (pv 6) pe_int (nomark _)) (pss_one (ps_set (i := 5) sc_law.nd rfl (Or.inl rfl) (pe_tup (pa_cons (pe_op op_sub pe_int (pe_ix ix_tup (pv 4) pe_int (fun _ _ => rfl))) (pa_cons (pe_ix ix_tup (pv 4) pe_int (fun _ _ => rfl)) pa_nil))))) pss_nil)
        (pss_cons (ps_if (PW.pt (pw_or (pt_not (pt_val (pe_call (Ow.ok_l_pair T) (hr.mono (by decide : 5 ≤ 5)) (by rfl) T.d_l_pair.m T.d_l_pair.F.kp T.d_l_pair.b .nil pass0 (pa_cons (pv 4) (pa_cons (pv 5) pa_nil))))) (pw_or (pt_not (pt_val (pe_call (Ow.ok_l_pair T) (hr.mono (by decide : 5 ≤ 5)) (by rfl) T.d_l_pair.m T.d_l_pair.F.kp T.d_l_pair.b .nil pass0 (pa_cons (pv 5) (pa_cons (pv 4) pa_nil))))) (pw_or1 (pt_not (pt_val (pe_call (Ow.ok_l_pair T) (hr.mono (by decide : 5 ≤ 5)) (by rfl) T.d_l_pair.m T.d_l_pair.F.kp T.d_l_pair.b .nil pass0 (pa_cons (pv 4) (pa_cons (pe_tup (pa_cons pe_int (pa_cons pe_int pa_nil))) pa_nil))))))))) (pss_one (ps_ret pe_bl)) pss_nil)
        (pss_one (ps_if (pt_not (pt_val (pe_call (Ow.ok_l_pair T) (hr.mono (by decide : 5 ≤ 5)) (by rfl) T.d_l_pair.m T.d_l_pair.F.kp T.d_l_pair.b .nil pass0 (pa_cons (pv 4) (pa_cons (pv 5) pa_nil))))) (pss_one (ps_ret pe_bl)) pss_nil)))))))))))
        (pss_one (ps_ret pe_bl))), ?_⟩
    refine ⟨_, rfl, ?_⟩
    refine ⟨_, _, rfl, .inl c0, ?_⟩
    refine ⟨_, rfl, fun len h_len => ?_⟩
    rw [List.length_map] at h_len
    refine ⟨_, _, rfl, ?_⟩
    refine ⟨_, rfl, fun m h_m => ?_⟩
    have hm_m := Ow.min_ite h_m
    refine ⟨_, _, rfl, ?_⟩
    refine ⟨_, rfl, fun m_2 h_m_2 => ?_⟩
    have hm_m_2 := Ow.max_ite h_m_2
    refine ⟨_, rfl, (by first | assumption | exact Ow.divw64 (by omega) (by omega) | exact Ow.mul0 ⟨by omega, by omega⟩ | exact Ow.mul1 ⟨by omega, by omega⟩ | exact Ow.shl0 (by omega) (by omega) (by omega) | exact ⟨by omega, by omega⟩ | exact ⟨by omega, by omega, by omega⟩ | omega | (simp only [List.length_append, List.length_cons, List.length_nil]; omega) | (subst_vars; omega)), (by first | assumption | exact Ow.divw64 (by omega) (by omega) | exact Ow.mul0 ⟨by omega, by omega⟩ | exact Ow.mul1 ⟨by omega, by omega⟩ | exact Ow.shl0 (by omega) (by omega) (by omega) | exact ⟨by omega, by omega⟩ | exact ⟨by omega, by omega, by omega⟩ | omega | (simp only [List.length_append, List.length_cons, List.length_nil]; omega) | (subst_vars; omega)), ?_⟩
    refine for_range (lo := 0) (fun i σ2 H2 => ∃ (v_1 : Option V) (v_2 : Option V) (v_3 : Option V) (v_4 : Option V) (v_5 : Option V) (v_6 : Option V), σ2 = [some (.ref script), v_1, v_2, v_3, v_4, v_5, v_6] ∧ Same _ H2) ⟨_, _, _, _, _, _, rfl, Same.refl _⟩ ?_ ?_
    · rintro i _ Hn h2 ⟨_, _, _, _, _, _, rfl, h1⟩
      refine Ow.gturn (fun l_k h_l_k => ?_)
      refine ⟨_, rfl, ?_⟩
      refine ⟨_, rfl, ?_⟩
      refine ⟨_, _, _, rfl, (Ow.seq h1 c0), (by first | assumption | exact Ow.divw64 (by omega) (by omega) | exact Ow.mul0 ⟨by omega, by omega⟩ | exact Ow.mul1 ⟨by omega, by omega⟩ | exact Ow.shl0 (by omega) (by omega) (by omega) | exact ⟨by omega, by omega⟩ | exact ⟨by omega, by omega, by omega⟩ | omega | (simp only [List.length_append, List.length_cons, List.length_nil]; omega) | (subst_vars; omega)), (by first | assumption | exact Ow.divw64 (by omega) (by omega) | exact Ow.mul0 ⟨by omega, by omega⟩ | exact Ow.mul1 ⟨by omega, by omega⟩ | exact Ow.shl0 (by omega) (by omega) (by omega) | exact ⟨by omega, by omega⟩ | exact ⟨by omega, by omega, by omega⟩ | omega | (simp only [List.length_append, List.length_cons, List.length_nil]; omega) | (subst_vars; omega)), fun t => ?_⟩
      refine ⟨_, rfl, fun a n p h_p => ?_⟩
      refine ⟨by show 2 ≤ sizeLine; decide, fun p_2 h_p_2 => ?_⟩
      refine ⟨_, rfl, ?_⟩
      refine ⟨rfl, ?_⟩
      refine ⟨_, rfl, fun n_2 h_n_2 => ?_⟩
      simp only [decide_eq_true_eq, decide_eq_false_iff_not, V.int.injEq, V.str.injEq] at h_n_2
      refine Ow.ixi2 (SqL.of upd_same) (by first | assumption | exact Ow.divw64 (by omega) (by omega) | exact Ow.mul0 ⟨by omega, by omega⟩ | exact Ow.mul1 ⟨by omega, by omega⟩ | exact Ow.shl0 (by omega) (by omega) (by omega) | exact ⟨by omega, by omega⟩ | exact ⟨by omega, by omega, by omega⟩ | omega | (simp only [List.length_append, List.length_cons, List.length_nil]; omega) | (subst_vars; omega)) (fun it h_it => ?_)
      have z_it : Ow.Sz 12 it := by rcases h_it with ⟨_, rfl⟩ | ⟨_, rfl⟩ <;> first | exact (Ow.Sz.mono (Ow.Sz.lit (n := 11) (i := 1101) (by decide)) (by decide : 11 ≤ 12)) | exact (Ow.Sz.lit (n := 12) (i := 2291) (by decide))
      refine ⟨_, rfl, ?_⟩
      refine ⟨_, rfl, ?_⟩
      refine ⟨_, _, _, _, _, rfl, (Ow.at_new h_p_2 upd_same), (by first | assumption | exact Ow.divw64 (by omega) (by omega) | exact Ow.mul0 ⟨by omega, by omega⟩ | exact Ow.mul1 ⟨by omega, by omega⟩ | exact Ow.shl0 (by omega) (by omega) (by omega) | exact ⟨by omega, by omega⟩ | exact ⟨by omega, by omega, by omega⟩ | omega | (simp only [List.length_append, List.length_cons, List.length_nil]; omega) | (subst_vars; omega)), (by first | assumption | exact Ow.divw64 (by omega) (by omega) | exact Ow.mul0 ⟨by omega, by omega⟩ | exact Ow.mul1 ⟨by omega, by omega⟩ | exact Ow.shl0 (by omega) (by omega) (by omega) | exact ⟨by omega, by omega⟩ | exact ⟨by omega, by omega, by omega⟩ | omega | (simp only [List.length_append, List.length_cons, List.length_nil]; omega) | (subst_vars; omega)), fun t_2 b a2 n2 h3 h4 h5 p_3 Hn_2 h6 h7 h8 h9 => ?_⟩
      refine ⟨_, rfl, ?_⟩
      refine ⟨_, rfl, ?_⟩
      refine ⟨_, _, _, _, _, rfl, h7, (by first | assumption | exact Ow.divw64 (by omega) (by omega) | exact Ow.mul0 ⟨by omega, by omega⟩ | exact Ow.mul1 ⟨by omega, by omega⟩ | exact Ow.shl0 (by omega) (by omega) (by omega) | exact ⟨by omega, by omega⟩ | exact ⟨by omega, by omega, by omega⟩ | omega | (simp only [List.length_append, List.length_cons, List.length_nil]; omega) | (subst_vars; omega)), (by first | assumption | exact Ow.divw64 (by omega) (by omega) | exact Ow.mul0 ⟨by omega, by omega⟩ | exact Ow.mul1 ⟨by omega, by omega⟩ | exact Ow.shl0 (by omega) (by omega) (by omega) | exact ⟨by omega, by omega⟩ | exact ⟨by omega, by omega, by omega⟩ | omega | (simp only [List.length_append, List.length_cons, List.length_nil]; omega) | (subst_vars; omega)), fun t_3 b_2 a2_2 n2_2 h10 h11 h12 p_4 Hn_3 h13 h14 h15 h16 => ?_⟩
      refine ⟨_, rfl, ?_⟩
      refine ⟨_, _, _, _, _, rfl, h14, (by first | assumption | exact Ow.divw64 (by omega) (by omega) | exact Ow.mul0 ⟨by omega, by omega⟩ | exact Ow.mul1 ⟨by omega, by omega⟩ | exact Ow.shl0 (by omega) (by omega) (by omega) | exact ⟨by omega, by omega⟩ | exact ⟨by omega, by omega, by omega⟩ | omega | (simp only [List.length_append, List.length_cons, List.length_nil]; omega) | (subst_vars; omega)), (by first | assumption | exact Ow.divw64 (by omega) (by omega) | exact Ow.mul0 ⟨by omega, by omega⟩ | exact Ow.mul1 ⟨by omega, by omega⟩ | exact Ow.shl0 (by omega) (by omega) (by omega) | exact ⟨by omega, by omega⟩ | exact ⟨by omega, by omega, by omega⟩ | omega | (simp only [List.length_append, List.length_cons, List.length_nil]; omega) | (subst_vars; omega)), fun l_way a2_3 n2_3 h17 h18 => ?_⟩
      refine ⟨_, rfl, ?_⟩
      refine ⟨rfl, ?_⟩
      refine ⟨_, rfl, ?_⟩
      refine Ow.ifeqi (fun h19 => ?_) (fun h19 => ?_)
      · refine ⟨_, rfl, ?_⟩
        refine ⟨_, rfl, ?_⟩
        refine ⟨rfl, ?_⟩
        refine ⟨_, rfl, ?_⟩
        refine Ow.ifeqi (fun h20 => ?_) (fun h20 => ?_)
        · refine ⟨_, rfl, ?_⟩
          refine ⟨_, _, _, _, rfl, rfl, (SqT.of (Ow.at_mut (Ow.ne_sym (ne_of_none (Ow.at_new h_p_2 upd_same) h8)) (h13 _ _ (Ow.ne_sym (ne_of_none (Ow.at_new h_p_2 upd_same) h8)) h9))), (by first | rfl | decide), ?_⟩
          refine ⟨_, _, rfl, rfl, ?_⟩
          refine ⟨_, rfl, ?_⟩
          refine ⟨_, _, _, _, rfl, rfl, (SqT.of (Ow.at_mut (Ow.ne_sym (ne_of_none (Ow.at_new h_p_2 upd_same) h8)) (h13 _ _ (Ow.ne_sym (ne_of_none (Ow.at_new h_p_2 upd_same) h8)) h9))), (by first | rfl | decide), ?_⟩
          refine ⟨by show 2 ≤ sizeLine; decide, fun p_5 h_p_5 => ?_⟩
          refine ⟨_, rfl, ?_⟩
          refine ⟨_, rfl, ?_⟩
          refine ⟨_, _, _, _, _, _, rfl, (Ow.at_new h_p_5 (Ow.at_mut (Ow.ne_sym (ne_of_none (Ow.at_new h_p_2 upd_same) h8)) (h13 _ _ (Ow.ne_sym (ne_of_none (Ow.at_new h_p_2 upd_same) h8)) h9))), (by first | assumption | exact Ow.divw64 (by omega) (by omega) | exact Ow.mul0 ⟨by omega, by omega⟩ | exact Ow.mul1 ⟨by omega, by omega⟩ | exact Ow.shl0 (by omega) (by omega) (by omega) | exact ⟨by omega, by omega⟩ | exact ⟨by omega, by omega, by omega⟩ | omega | (simp only [List.length_append, List.length_cons, List.length_nil]; omega) | (subst_vars; omega)), (Ow.Sz.mono h3 (by decide : 2340 ≤ 2400)), (Ow.Sz.mono h5 (by decide : 2340 ≤ 2400)), upd_same, (by first | assumption | exact Ow.divw64 (by omega) (by omega) | exact Ow.mul0 ⟨by omega, by omega⟩ | exact Ow.mul1 ⟨by omega, by omega⟩ | exact Ow.shl0 (by omega) (by omega) (by omega) | exact ⟨by omega, by omega⟩ | exact ⟨by omega, by omega, by omega⟩ | omega | (simp only [List.length_append, List.length_cons, List.length_nil]; omega) | (subst_vars; omega)), (Ow.Sz.mono (Ow.Sz.sub (Ow.Sz.mono (Ow.Sz.lit (n := 1) (i := 0) (by decide)) (by decide : 1 ≤ 2340)) h3) (by decide : 2341 ≤ 2400)), (Ow.Sz.mono h5 (by decide : 2340 ≤ 2400)), fun Hn_4 h21 => ?_⟩
          refine ⟨_, rfl, ?_⟩
          refine iteF ?_
          refine ⟨_, rfl, ?_⟩
          refine ⟨_, rfl, ?_⟩
          refine ⟨_, _, _, _, _, _, rfl, (h21 _ _ upd_same), (by first | assumption | exact Ow.divw64 (by omega) (by omega) | exact Ow.mul0 ⟨by omega, by omega⟩ | exact Ow.mul1 ⟨by omega, by omega⟩ | exact Ow.shl0 (by omega) (by omega) (by omega) | exact ⟨by omega, by omega⟩ | exact ⟨by omega, by omega, by omega⟩ | omega | (simp only [List.length_append, List.length_cons, List.length_nil]; omega) | (subst_vars; omega)), (Ow.Sz.mono (Ow.Sz.sub (Ow.Sz.mono (Ow.Sz.lit (n := 1) (i := 0) (by decide)) (by decide : 1 ≤ 2340)) h3) (by decide : 2341 ≤ 2400)), (Ow.Sz.mono h5 (by decide : 2340 ≤ 2400)), (h21 _ _ (Ow.at_new h_p_5 (Ow.at_mut (Ow.ne_sym (ne_of_none (Ow.at_new h_p_2 upd_same) h8)) (h13 _ _ (Ow.ne_sym (ne_of_none (Ow.at_new h_p_2 upd_same) h8)) h9)))), (by first | assumption | exact Ow.divw64 (by omega) (by omega) | exact Ow.mul0 ⟨by omega, by omega⟩ | exact Ow.mul1 ⟨by omega, by omega⟩ | exact Ow.shl0 (by omega) (by omega) (by omega) | exact ⟨by omega, by omega⟩ | exact ⟨by omega, by omega, by omega⟩ | omega | (simp only [List.length_append, List.length_cons, List.length_nil]; omega) | (subst_vars; omega)), (Ow.Sz.mono h3 (by decide : 2340 ≤ 2400)), (Ow.Sz.mono h5 (by decide : 2340 ≤ 2400)), fun Hn_5 h22 => ?_⟩
          refine ⟨_, rfl, ?_⟩
          refine iteF ?_
          refine ⟨_, rfl, ?_⟩
          refine ⟨by show 2 ≤ sizeLine; decide, fun p_6 h_p_6 => ?_⟩
          refine ⟨_, _, _, _, _, _, rfl, (Ow.at_new h_p_6 (h22 _ _ (h21 _ _ (Ow.at_new h_p_5 (Ow.at_mut (Ow.ne_sym (ne_of_none (Ow.at_new h_p_2 upd_same) h8)) (h13 _ _ (Ow.ne_sym (ne_of_none (Ow.at_new h_p_2 upd_same) h8)) h9)))))), (by first | assumption | exact Ow.divw64 (by omega) (by omega) | exact Ow.mul0 ⟨by omega, by omega⟩ | exact Ow.mul1 ⟨by omega, by omega⟩ | exact Ow.shl0 (by omega) (by omega) (by omega) | exact ⟨by omega, by omega⟩ | exact ⟨by omega, by omega, by omega⟩ | omega | (simp only [List.length_append, List.length_cons, List.length_nil]; omega) | (subst_vars; omega)), (Ow.Sz.mono h3 (by decide : 2340 ≤ 2400)), (Ow.Sz.mono h5 (by decide : 2340 ≤ 2400)), upd_same, (by first | assumption | exact Ow.divw64 (by omega) (by omega) | exact Ow.mul0 ⟨by omega, by omega⟩ | exact Ow.mul1 ⟨by omega, by omega⟩ | exact Ow.shl0 (by omega) (by omega) (by omega) | exact ⟨by omega, by omega⟩ | exact ⟨by omega, by omega, by omega⟩ | omega | (simp only [List.length_append, List.length_cons, List.length_nil]; omega) | (subst_vars; omega)), (Ow.Sz.mono (Ow.Sz.lit (n := 1) (i := 0) (by decide)) (by decide : 1 ≤ 2400)), (Ow.Sz.mono (Ow.Sz.lit (n := 1) (i := 1) (by decide)) (by decide : 1 ≤ 2400)), fun Hn_6 h23 => ?_⟩
          refine ⟨_, rfl, ?_⟩
          refine iteF ?_
          refine ⟨_, rfl, ?_⟩
          refine ⟨_, rfl, ?_⟩
          refine ⟨_, _, _, _, _, _, rfl, (h23 _ _ (Ow.at_new h_p_6 (h22 _ _ (h21 _ _ (Ow.at_new h_p_5 (Ow.at_mut (Ow.ne_sym (ne_of_none (Ow.at_new h_p_2 upd_same) h8)) (h13 _ _ (Ow.ne_sym (ne_of_none (Ow.at_new h_p_2 upd_same) h8)) h9))))))), (by first | assumption | exact Ow.divw64 (by omega) (by omega) | exact Ow.mul0 ⟨by omega, by omega⟩ | exact Ow.mul1 ⟨by omega, by omega⟩ | exact Ow.shl0 (by omega) (by omega) (by omega) | exact ⟨by omega, by omega⟩ | exact ⟨by omega, by omega, by omega⟩ | omega | (simp only [List.length_append, List.length_cons, List.length_nil]; omega) | (subst_vars; omega)), (Ow.Sz.mono h3 (by decide : 2340 ≤ 2400)), (Ow.Sz.mono h5 (by decide : 2340 ≤ 2400)), (h23 _ _ (Ow.at_new h_p_6 (h22 _ _ (h21 _ _ upd_same)))), (by first | assumption | exact Ow.divw64 (by omega) (by omega) | exact Ow.mul0 ⟨by omega, by omega⟩ | exact Ow.mul1 ⟨by omega, by omega⟩ | exact Ow.shl0 (by omega) (by omega) (by omega) | exact ⟨by omega, by omega⟩ | exact ⟨by omega, by omega, by omega⟩ | omega | (simp only [List.length_append, List.length_cons, List.length_nil]; omega) | (subst_vars; omega)), (Ow.Sz.mono (Ow.Sz.sub (Ow.Sz.mono (Ow.Sz.lit (n := 1) (i := 0) (by decide)) (by decide : 1 ≤ 2340)) h3) (by decide : 2341 ≤ 2400)), (Ow.Sz.mono h5 (by decide : 2340 ≤ 2400)), fun Hn_7 h24 => ?_⟩
          refine ⟨_, rfl, ?_⟩
          refine iteF ?_
          exact ⟨_, _, _, _, _, _, rfl, (((((((Ow.same_mut (Ow.same_frame (Ow.same_frame ((h1.trans (Ow.same_new h_p)).trans (Ow.same_new h_p_2)) h6 (Same.free h1 h_p)) h13 (Same.free h1 h_p)) (Same.free h1 h_p)).trans (Ow.same_new h_p_5)).trans h21).trans h22).trans (Ow.same_new h_p_6)).trans h23).trans h24)⟩
        · refine ⟨_, rfl, ?_⟩
          refine ⟨_, rfl, ?_⟩
          refine ⟨_, _, _, _, _, _, rfl, (Ow.at_mut (Ow.ne_sym (ne_of_none (Ow.at_new h_p_2 upd_same) h8)) (h13 _ _ (Ow.ne_sym (ne_of_none (Ow.at_new h_p_2 upd_same) h8)) h9)), (by first | assumption | exact Ow.divw64 (by omega) (by omega) | exact Ow.mul0 ⟨by omega, by omega⟩ | exact Ow.mul1 ⟨by omega, by omega⟩ | exact Ow.shl0 (by omega) (by omega) (by omega) | exact ⟨by omega, by omega⟩ | exact ⟨by omega, by omega, by omega⟩ | omega | (simp only [List.length_append, List.length_cons, List.length_nil]; omega) | (subst_vars; omega)), (Ow.Sz.mono h3 (by decide : 2340 ≤ 2400)), (Ow.Sz.mono h5 (by decide : 2340 ≤ 2400)), (Ow.at_mut (Ow.ne_sym (ne_of_none (Ow.at_new h_p_2 upd_same) h8)) (h13 _ _ (Ow.ne_sym (ne_of_none (Ow.at_new h_p_2 upd_same) h8)) h9)), (by first | assumption | exact Ow.divw64 (by omega) (by omega) | exact Ow.mul0 ⟨by omega, by omega⟩ | exact Ow.mul1 ⟨by omega, by omega⟩ | exact Ow.shl0 (by omega) (by omega) (by omega) | exact ⟨by omega, by omega⟩ | exact ⟨by omega, by omega, by omega⟩ | omega | (simp only [List.length_append, List.length_cons, List.length_nil]; omega) | (subst_vars; omega)), (Ow.Sz.mono h3 (by decide : 2340 ≤ 2400)), (Ow.Sz.mono h5 (by decide : 2340 ≤ 2400)), fun Hn_8 h25 => ?_⟩
          refine ⟨_, rfl, ?_⟩
          refine iteF ?_
          refine ⟨_, rfl, ?_⟩
          refine ⟨_, rfl, ?_⟩
          refine ⟨_, _, _, _, _, _, rfl, (h25 _ _ (Ow.at_mut (Ow.ne_sym (ne_of_none (Ow.at_new h_p_2 upd_same) h8)) (h13 _ _ (Ow.ne_sym (ne_of_none (Ow.at_new h_p_2 upd_same) h8)) h9))), (by first | assumption | exact Ow.divw64 (by omega) (by omega) | exact Ow.mul0 ⟨by omega, by omega⟩ | exact Ow.mul1 ⟨by omega, by omega⟩ | exact Ow.shl0 (by omega) (by omega) (by omega) | exact ⟨by omega, by omega⟩ | exact ⟨by omega, by omega, by omega⟩ | omega | (simp only [List.length_append, List.length_cons, List.length_nil]; omega) | (subst_vars; omega)), (Ow.Sz.mono h3 (by decide : 2340 ≤ 2400)), (Ow.Sz.mono h5 (by decide : 2340 ≤ 2400)), (h25 _ _ (Ow.at_mut (Ow.ne_sym (ne_of_none (Ow.at_new h_p_2 upd_same) h8)) (h13 _ _ (Ow.ne_sym (ne_of_none (Ow.at_new h_p_2 upd_same) h8)) h9))), (by first | assumption | exact Ow.divw64 (by omega) (by omega) | exact Ow.mul0 ⟨by omega, by omega⟩ | exact Ow.mul1 ⟨by omega, by omega⟩ | exact Ow.shl0 (by omega) (by omega) (by omega) | exact ⟨by omega, by omega⟩ | exact ⟨by omega, by omega, by omega⟩ | omega | (simp only [List.length_append, List.length_cons, List.length_nil]; omega) | (subst_vars; omega)), (Ow.Sz.mono h3 (by decide : 2340 ≤ 2400)), (Ow.Sz.mono h5 (by decide : 2340 ≤ 2400)), fun Hn_9 h26 => ?_⟩
          refine ⟨_, rfl, ?_⟩
          refine iteF ?_
          refine ⟨_, rfl, ?_⟩
          refine ⟨by show 2 ≤ sizeLine; decide, fun p_7 h_p_7 => ?_⟩
          refine ⟨_, _, _, _, _, _, rfl, (Ow.at_new h_p_7 (h26 _ _ (h25 _ _ (Ow.at_mut (Ow.ne_sym (ne_of_none (Ow.at_new h_p_2 upd_same) h8)) (h13 _ _ (Ow.ne_sym (ne_of_none (Ow.at_new h_p_2 upd_same) h8)) h9))))), (by first | assumption | exact Ow.divw64 (by omega) (by omega) | exact Ow.mul0 ⟨by omega, by omega⟩ | exact Ow.mul1 ⟨by omega, by omega⟩ | exact Ow.shl0 (by omega) (by omega) (by omega) | exact ⟨by omega, by omega⟩ | exact ⟨by omega, by omega, by omega⟩ | omega | (simp only [List.length_append, List.length_cons, List.length_nil]; omega) | (subst_vars; omega)), (Ow.Sz.mono h3 (by decide : 2340 ≤ 2400)), (Ow.Sz.mono h5 (by decide : 2340 ≤ 2400)), upd_same, (by first | assumption | exact Ow.divw64 (by omega) (by omega) | exact Ow.mul0 ⟨by omega, by omega⟩ | exact Ow.mul1 ⟨by omega, by omega⟩ | exact Ow.shl0 (by omega) (by omega) (by omega) | exact ⟨by omega, by omega⟩ | exact ⟨by omega, by omega, by omega⟩ | omega | (simp only [List.length_append, List.length_cons, List.length_nil]; omega) | (subst_vars; omega)), (Ow.Sz.mono (Ow.Sz.lit (n := 1) (i := 0) (by decide)) (by decide : 1 ≤ 2400)), (Ow.Sz.mono (Ow.Sz.lit (n := 1) (i := 1) (by decide)) (by decide : 1 ≤ 2400)), fun Hn_10 h27 => ?_⟩
          refine ⟨_, rfl, ?_⟩
          refine iteF ?_
          refine ⟨_, rfl, ?_⟩
          refine ⟨_, rfl, ?_⟩
          refine ⟨_, _, _, _, _, _, rfl, (h27 _ _ (Ow.at_new h_p_7 (h26 _ _ (h25 _ _ (Ow.at_mut (Ow.ne_sym (ne_of_none (Ow.at_new h_p_2 upd_same) h8)) (h13 _ _ (Ow.ne_sym (ne_of_none (Ow.at_new h_p_2 upd_same) h8)) h9)))))), (by first | assumption | exact Ow.divw64 (by omega) (by omega) | exact Ow.mul0 ⟨by omega, by omega⟩ | exact Ow.mul1 ⟨by omega, by omega⟩ | exact Ow.shl0 (by omega) (by omega) (by omega) | exact ⟨by omega, by omega⟩ | exact ⟨by omega, by omega, by omega⟩ | omega | (simp only [List.length_append, List.length_cons, List.length_nil]; omega) | (subst_vars; omega)), (Ow.Sz.mono h3 (by decide : 2340 ≤ 2400)), (Ow.Sz.mono h5 (by decide : 2340 ≤ 2400)), (h27 _ _ (Ow.at_new h_p_7 (h26 _ _ (h25 _ _ (Ow.at_mut (Ow.ne_sym (ne_of_none (Ow.at_new h_p_2 upd_same) h8)) (h13 _ _ (Ow.ne_sym (ne_of_none (Ow.at_new h_p_2 upd_same) h8)) h9)))))), (by first | assumption | exact Ow.divw64 (by omega) (by omega) | exact Ow.mul0 ⟨by omega, by omega⟩ | exact Ow.mul1 ⟨by omega, by omega⟩ | exact Ow.shl0 (by omega) (by omega) (by omega) | exact ⟨by omega, by omega⟩ | exact ⟨by omega, by omega, by omega⟩ | omega | (simp only [List.length_append, List.length_cons, List.length_nil]; omega) | (subst_vars; omega)), (Ow.Sz.mono h3 (by decide : 2340 ≤ 2400)), (Ow.Sz.mono h5 (by decide : 2340 ≤ 2400)), fun Hn_11 h28 => ?_⟩
          refine ⟨_, rfl, ?_⟩
          refine iteF ?_
          exact ⟨_, _, _, _, _, _, rfl, ((((((Ow.same_mut (Ow.same_frame (Ow.same_frame ((h1.trans (Ow.same_new h_p)).trans (Ow.same_new h_p_2)) h6 (Same.free h1 h_p)) h13 (Same.free h1 h_p)) (Same.free h1 h_p)).trans h25).trans h26).trans (Ow.same_new h_p_7)).trans h27).trans h28)⟩
      · refine ⟨_, rfl, ?_⟩
        refine ⟨rfl, ?_⟩
        refine ⟨_, rfl, ?_⟩
        refine Ow.ifeqi (fun h29 => ?_) (fun h29 => ?_)
        · refine ⟨_, rfl, ?_⟩
          refine ⟨_, _, _, _, rfl, rfl, (SqT.of (Ow.at_mut (Ow.ne_sym (ne_of_none (Ow.at_new h_p_2 upd_same) h8)) (h13 _ _ (Ow.ne_sym (ne_of_none (Ow.at_new h_p_2 upd_same) h8)) h9))), (by first | rfl | decide), ?_⟩
          refine ⟨_, _, rfl, rfl, ?_⟩
          refine ⟨_, rfl, ?_⟩
          refine ⟨_, _, _, _, rfl, rfl, (SqT.of (Ow.at_mut (Ow.ne_sym (ne_of_none (Ow.at_new h_p_2 upd_same) h8)) (h13 _ _ (Ow.ne_sym (ne_of_none (Ow.at_new h_p_2 upd_same) h8)) h9))), (by first | rfl | decide), ?_⟩
          refine ⟨by show 2 ≤ sizeLine; decide, fun p_8 h_p_8 => ?_⟩
          refine ⟨_, rfl, ?_⟩
          refine ⟨_, rfl, ?_⟩
          refine ⟨_, _, _, _, _, _, rfl, (Ow.at_new h_p_8 (Ow.at_mut (Ow.ne_sym (ne_of_none (Ow.at_new h_p_2 upd_same) h8)) (h13 _ _ (Ow.ne_sym (ne_of_none (Ow.at_new h_p_2 upd_same) h8)) h9))), (by first | assumption | exact Ow.divw64 (by omega) (by omega) | exact Ow.mul0 ⟨by omega, by omega⟩ | exact Ow.mul1 ⟨by omega, by omega⟩ | exact Ow.shl0 (by omega) (by omega) (by omega) | exact ⟨by omega, by omega⟩ | exact ⟨by omega, by omega, by omega⟩ | omega | (simp only [List.length_append, List.length_cons, List.length_nil]; omega) | (subst_vars; omega)), (Ow.Sz.mono h3 (by decide : 2340 ≤ 2400)), (Ow.Sz.mono h5 (by decide : 2340 ≤ 2400)), upd_same, (by first | assumption | exact Ow.divw64 (by omega) (by omega) | exact Ow.mul0 ⟨by omega, by omega⟩ | exact Ow.mul1 ⟨by omega, by omega⟩ | exact Ow.shl0 (by omega) (by omega) (by omega) | exact ⟨by omega, by omega⟩ | exact ⟨by omega, by omega, by omega⟩ | omega | (simp only [List.length_append, List.length_cons, List.length_nil]; omega) | (subst_vars; omega)), (Ow.Sz.mono (Ow.Sz.sub (Ow.Sz.mono (Ow.Sz.lit (n := 1) (i := 0) (by decide)) (by decide : 1 ≤ 2340)) h3) (by decide : 2341 ≤ 2400)), (Ow.Sz.mono h5 (by decide : 2340 ≤ 2400)), fun Hn_12 h30 => ?_⟩
          refine ⟨_, rfl, ?_⟩
          refine iteF ?_
          refine ⟨_, rfl, ?_⟩
          refine ⟨_, rfl, ?_⟩
          refine ⟨_, _, _, _, _, _, rfl, (h30 _ _ upd_same), (by first | assumption | exact Ow.divw64 (by omega) (by omega) | exact Ow.mul0 ⟨by omega, by omega⟩ | exact Ow.mul1 ⟨by omega, by omega⟩ | exact Ow.shl0 (by omega) (by omega) (by omega) | exact ⟨by omega, by omega⟩ | exact ⟨by omega, by omega, by omega⟩ | omega | (simp only [List.length_append, List.length_cons, List.length_nil]; omega) | (subst_vars; omega)), (Ow.Sz.mono (Ow.Sz.sub (Ow.Sz.mono (Ow.Sz.lit (n := 1) (i := 0) (by decide)) (by decide : 1 ≤ 2340)) h3) (by decide : 2341 ≤ 2400)), (Ow.Sz.mono h5 (by decide : 2340 ≤ 2400)), (h30 _ _ (Ow.at_new h_p_8 (Ow.at_mut (Ow.ne_sym (ne_of_none (Ow.at_new h_p_2 upd_same) h8)) (h13 _ _ (Ow.ne_sym (ne_of_none (Ow.at_new h_p_2 upd_same) h8)) h9)))), (by first | assumption | exact Ow.divw64 (by omega) (by omega) | exact Ow.mul0 ⟨by omega, by omega⟩ | exact Ow.mul1 ⟨by omega, by omega⟩ | exact Ow.shl0 (by omega) (by omega) (by omega) | exact ⟨by omega, by omega⟩ | exact ⟨by omega, by omega, by omega⟩ | omega | (simp only [List.length_append, List.length_cons, List.length_nil]; omega) | (subst_vars; omega)), (Ow.Sz.mono h3 (by decide : 2340 ≤ 2400)), (Ow.Sz.mono h5 (by decide : 2340 ≤ 2400)), fun Hn_13 h31 => ?_⟩
          refine ⟨_, rfl, ?_⟩
          refine iteF ?_
          refine ⟨_, rfl, ?_⟩
          refine ⟨by show 2 ≤ sizeLine; decide, fun p_9 h_p_9 => ?_⟩
          refine ⟨_, _, _, _, _, _, rfl, (Ow.at_new h_p_9 (h31 _ _ (h30 _ _ (Ow.at_new h_p_8 (Ow.at_mut (Ow.ne_sym (ne_of_none (Ow.at_new h_p_2 upd_same) h8)) (h13 _ _ (Ow.ne_sym (ne_of_none (Ow.at_new h_p_2 upd_same) h8)) h9)))))), (by first | assumption | exact Ow.divw64 (by omega) (by omega) | exact Ow.mul0 ⟨by omega, by omega⟩ | exact Ow.mul1 ⟨by omega, by omega⟩ | exact Ow.shl0 (by omega) (by omega) (by omega) | exact ⟨by omega, by omega⟩ | exact ⟨by omega, by omega, by omega⟩ | omega | (simp only [List.length_append, List.length_cons, List.length_nil]; omega) | (subst_vars; omega)), (Ow.Sz.mono h3 (by decide : 2340 ≤ 2400)), (Ow.Sz.mono h5 (by decide : 2340 ≤ 2400)), upd_same, (by first | assumption | exact Ow.divw64 (by omega) (by omega) | exact Ow.mul0 ⟨by omega, by omega⟩ | exact Ow.mul1 ⟨by omega, by omega⟩ | exact Ow.shl0 (by omega) (by omega) (by omega) | exact ⟨by omega, by omega⟩ | exact ⟨by omega, by omega, by omega⟩ | omega | (simp only [List.length_append, List.length_cons, List.length_nil]; omega) | (subst_vars; omega)), (Ow.Sz.mono (Ow.Sz.lit (n := 1) (i := 0) (by decide)) (by decide : 1 ≤ 2400)), (Ow.Sz.mono (Ow.Sz.lit (n := 1) (i := 1) (by decide)) (by decide : 1 ≤ 2400)), fun Hn_14 h32 => ?_⟩
          refine ⟨_, rfl, ?_⟩
          refine iteF ?_
          refine ⟨_, rfl, ?_⟩
          refine ⟨_, rfl, ?_⟩
          refine ⟨_, _, _, _, _, _, rfl, (h32 _ _ (Ow.at_new h_p_9 (h31 _ _ (h30 _ _ (Ow.at_new h_p_8 (Ow.at_mut (Ow.ne_sym (ne_of_none (Ow.at_new h_p_2 upd_same) h8)) (h13 _ _ (Ow.ne_sym (ne_of_none (Ow.at_new h_p_2 upd_same) h8)) h9))))))), (by first | assumption | exact Ow.divw64 (by omega) (by omega) | exact Ow.mul0 ⟨by omega, by omega⟩ | exact Ow.mul1 ⟨by omega, by omega⟩ | exact Ow.shl0 (by omega) (by omega) (by omega) | exact ⟨by omega, by omega⟩ | exact ⟨by omega, by omega, by omega⟩ | omega | (simp only [List.length_append, List.length_cons, List.length_nil]; omega) | (subst_vars; omega)), (Ow.Sz.mono h3 (by decide : 2340 ≤ 2400)), (Ow.Sz.mono h5 (by decide : 2340 ≤ 2400)), (h32 _ _ (Ow.at_new h_p_9 (h31 _ _ (h30 _ _ upd_same)))), (by first | assumption | exact Ow.divw64 (by omega) (by omega) | exact Ow.mul0 ⟨by omega, by omega⟩ | exact Ow.mul1 ⟨by omega, by omega⟩ | exact Ow.shl0 (by omega) (by omega) (by omega) | exact ⟨by omega, by omega⟩ | exact ⟨by omega, by omega, by omega⟩ | omega | (simp only [List.length_append, List.length_cons, List.length_nil]; omega) | (subst_vars; omega)), (Ow.Sz.mono (Ow.Sz.sub (Ow.Sz.mono (Ow.Sz.lit (n := 1) (i := 0) (by decide)) (by decide : 1 ≤ 2340)) h3) (by decide : 2341 ≤ 2400)), (Ow.Sz.mono h5 (by decide : 2340 ≤ 2400)), fun Hn_15 h33 => ?_⟩
          refine ⟨_, rfl, ?_⟩
          refine iteF ?_
          exact ⟨_, _, _, _, _, _, rfl, (((((((Ow.same_mut (Ow.same_frame (Ow.same_frame ((h1.trans (Ow.same_new h_p)).trans (Ow.same_new h_p_2)) h6 (Same.free h1 h_p)) h13 (Same.free h1 h_p)) (Same.free h1 h_p)).trans (Ow.same_new h_p_8)).trans h30).trans h31).trans (Ow.same_new h_p_9)).trans h32).trans h33)⟩
        · refine ⟨_, rfl, ?_⟩
          refine ⟨_, rfl, ?_⟩
          refine ⟨_, _, _, _, _, _, rfl, (Ow.at_mut (Ow.ne_sym (ne_of_none (Ow.at_new h_p_2 upd_same) h8)) (h13 _ _ (Ow.ne_sym (ne_of_none (Ow.at_new h_p_2 upd_same) h8)) h9)), (by first | assumption | exact Ow.divw64 (by omega) (by omega) | exact Ow.mul0 ⟨by omega, by omega⟩ | exact Ow.mul1 ⟨by omega, by omega⟩ | exact Ow.shl0 (by omega) (by omega) (by omega) | exact ⟨by omega, by omega⟩ | exact ⟨by omega, by omega, by omega⟩ | omega | (simp only [List.length_append, List.length_cons, List.length_nil]; omega) | (subst_vars; omega)), (Ow.Sz.mono h3 (by decide : 2340 ≤ 2400)), (Ow.Sz.mono h5 (by decide : 2340 ≤ 2400)), (Ow.at_mut (Ow.ne_sym (ne_of_none h7 h15)) h16), (by first | assumption | exact Ow.divw64 (by omega) (by omega) | exact Ow.mul0 ⟨by omega, by omega⟩ | exact Ow.mul1 ⟨by omega, by omega⟩ | exact Ow.shl0 (by omega) (by omega) (by omega) | exact ⟨by omega, by omega⟩ | exact ⟨by omega, by omega, by omega⟩ | omega | (simp only [List.length_append, List.length_cons, List.length_nil]; omega) | (subst_vars; omega)), (Ow.Sz.mono h10 (by decide : 2340 ≤ 2400)), (Ow.Sz.mono h12 (by decide : 2340 ≤ 2400)), fun Hn_16 h34 => ?_⟩
          refine ⟨_, rfl, ?_⟩
          refine iteF ?_
          refine ⟨_, rfl, ?_⟩
          refine ⟨_, rfl, ?_⟩
          refine ⟨_, _, _, _, _, _, rfl, (h34 _ _ (Ow.at_mut (Ow.ne_sym (ne_of_none h7 h15)) h16)), (by first | assumption | exact Ow.divw64 (by omega) (by omega) | exact Ow.mul0 ⟨by omega, by omega⟩ | exact Ow.mul1 ⟨by omega, by omega⟩ | exact Ow.shl0 (by omega) (by omega) (by omega) | exact ⟨by omega, by omega⟩ | exact ⟨by omega, by omega, by omega⟩ | omega | (simp only [List.length_append, List.length_cons, List.length_nil]; omega) | (subst_vars; omega)), (Ow.Sz.mono h10 (by decide : 2340 ≤ 2400)), (Ow.Sz.mono h12 (by decide : 2340 ≤ 2400)), (h34 _ _ (Ow.at_mut (Ow.ne_sym (ne_of_none (Ow.at_new h_p_2 upd_same) h8)) (h13 _ _ (Ow.ne_sym (ne_of_none (Ow.at_new h_p_2 upd_same) h8)) h9))), (by first | assumption | exact Ow.divw64 (by omega) (by omega) | exact Ow.mul0 ⟨by omega, by omega⟩ | exact Ow.mul1 ⟨by omega, by omega⟩ | exact Ow.shl0 (by omega) (by omega) (by omega) | exact ⟨by omega, by omega⟩ | exact ⟨by omega, by omega, by omega⟩ | omega | (simp only [List.length_append, List.length_cons, List.length_nil]; omega) | (subst_vars; omega)), (Ow.Sz.mono h3 (by decide : 2340 ≤ 2400)), (Ow.Sz.mono h5 (by decide : 2340 ≤ 2400)), fun Hn_17 h35 => ?_⟩
          refine ⟨_, rfl, ?_⟩
          refine iteF ?_
          refine ⟨_, rfl, ?_⟩
          refine ⟨by show 2 ≤ sizeLine; decide, fun p_10 h_p_10 => ?_⟩
          refine ⟨_, _, _, _, _, _, rfl, (Ow.at_new h_p_10 (h35 _ _ (h34 _ _ (Ow.at_mut (Ow.ne_sym (ne_of_none (Ow.at_new h_p_2 upd_same) h8)) (h13 _ _ (Ow.ne_sym (ne_of_none (Ow.at_new h_p_2 upd_same) h8)) h9))))), (by first | assumption | exact Ow.divw64 (by omega) (by omega) | exact Ow.mul0 ⟨by omega, by omega⟩ | exact Ow.mul1 ⟨by omega, by omega⟩ | exact Ow.shl0 (by omega) (by omega) (by omega) | exact ⟨by omega, by omega⟩ | exact ⟨by omega, by omega, by omega⟩ | omega | (simp only [List.length_append, List.length_cons, List.length_nil]; omega) | (subst_vars; omega)), (Ow.Sz.mono h3 (by decide : 2340 ≤ 2400)), (Ow.Sz.mono h5 (by decide : 2340 ≤ 2400)), upd_same, (by first | assumption | exact Ow.divw64 (by omega) (by omega) | exact Ow.mul0 ⟨by omega, by omega⟩ | exact Ow.mul1 ⟨by omega, by omega⟩ | exact Ow.shl0 (by omega) (by omega) (by omega) | exact ⟨by omega, by omega⟩ | exact ⟨by omega, by omega, by omega⟩ | omega | (simp only [List.length_append, List.length_cons, List.length_nil]; omega) | (subst_vars; omega)), (Ow.Sz.mono (Ow.Sz.lit (n := 1) (i := 0) (by decide)) (by decide : 1 ≤ 2400)), (Ow.Sz.mono (Ow.Sz.lit (n := 1) (i := 1) (by decide)) (by decide : 1 ≤ 2400)), fun Hn_18 h36 => ?_⟩
          refine ⟨_, rfl, ?_⟩
          refine iteF ?_
          refine ⟨_, rfl, ?_⟩
          refine ⟨_, rfl, ?_⟩
          refine ⟨_, _, _, _, _, _, rfl, (h36 _ _ (Ow.at_new h_p_10 (h35 _ _ (h34 _ _ (Ow.at_mut (Ow.ne_sym (ne_of_none (Ow.at_new h_p_2 upd_same) h8)) (h13 _ _ (Ow.ne_sym (ne_of_none (Ow.at_new h_p_2 upd_same) h8)) h9)))))), (by first | assumption | exact Ow.divw64 (by omega) (by omega) | exact Ow.mul0 ⟨by omega, by omega⟩ | exact Ow.mul1 ⟨by omega, by omega⟩ | exact Ow.shl0 (by omega) (by omega) (by omega) | exact ⟨by omega, by omega⟩ | exact ⟨by omega, by omega, by omega⟩ | omega | (simp only [List.length_append, List.length_cons, List.length_nil]; omega) | (subst_vars; omega)), (Ow.Sz.mono h3 (by decide : 2340 ≤ 2400)), (Ow.Sz.mono h5 (by decide : 2340 ≤ 2400)), (h36 _ _ (Ow.at_new h_p_10 (h35 _ _ (h34 _ _ (Ow.at_mut (Ow.ne_sym (ne_of_none h7 h15)) h16))))), (by first | assumption | exact Ow.divw64 (by omega) (by omega) | exact Ow.mul0 ⟨by omega, by omega⟩ | exact Ow.mul1 ⟨by omega, by omega⟩ | exact Ow.shl0 (by omega) (by omega) (by omega) | exact ⟨by omega, by omega⟩ | exact ⟨by omega, by omega, by omega⟩ | omega | (simp only [List.length_append, List.length_cons, List.length_nil]; omega) | (subst_vars; omega)), (Ow.Sz.mono h10 (by decide : 2340 ≤ 2400)), (Ow.Sz.mono h12 (by decide : 2340 ≤ 2400)), fun Hn_19 h37 => ?_⟩
          refine ⟨_, rfl, ?_⟩
          refine iteF ?_
          exact ⟨_, _, _, _, _, _, rfl, ((((((Ow.same_mut (Ow.same_frame (Ow.same_frame ((h1.trans (Ow.same_new h_p)).trans (Ow.same_new h_p_2)) h6 (Same.free h1 h_p)) h13 (Same.free h1 h_p)) (Same.free h1 h_p)).trans h34).trans h35).trans (Ow.same_new h_p_10)).trans h36).trans h37)⟩
    · rintro _ Hn_20 ⟨_, _, _, _, _, _, rfl, h38⟩
      exact kont _ h38
end
def tx_mk {K : PySem.W.Frag} {h : Heap} {mg : Str → Option Value} (X : K.In h) (G : h.Ns mainGlobals mg) {C_WiseError : Addr} {mc_WiseError : Value} {X_NoFraction N_NoFraction : Addr} {nm_NoFraction q_NoFraction : Str} {bs_NoFraction bm_NoFraction : List Value} {sn_NoFraction : List Str} {sub_NoFraction : List Value} {ab_NoFraction : Bool} {col_NoFraction : Option Bool} {dd_NoFraction : Option Addr} {m0_NoFraction m1_NoFraction m2_NoFraction m3_NoFraction m5_NoFraction : Option Value} {X_NothingBy N_NothingBy : Addr} {nm_NothingBy q_NothingBy : Str} {bs_NothingBy bm_NothingBy : List Value} {sn_NothingBy : List Str} {sub_NothingBy : List Value} {ab_NothingBy : Bool} {col_NothingBy : Option Bool} {dd_NothingBy : Option Addr} {m0_NothingBy m1_NothingBy m2_NothingBy m3_NothingBy m5_NothingBy : Option Value}    {f_l_begun : Addr} {od_l_begun an_l_begun : Option Addr} {oc_l_begun kV_l_begun dc_l_begun pm_l_begun cd_l_begun ct_l_begun : Value} {sl_l_begun : Array (Option Value)} {f_l_draw : Addr} {od_l_draw an_l_draw : Option Addr} {oc_l_draw kV_l_draw dc_l_draw pm_l_draw cd_l_draw ct_l_draw : Value} {sl_l_draw : Array (Option Value)} {f_l_number : Addr} {od_l_number an_l_number : Option Addr} {oc_l_number kV_l_number dc_l_number pm_l_number cd_l_number ct_l_number : Value} {sl_l_number : Array (Option Value)} {f_l_divisor : Addr} {od_l_divisor an_l_divisor : Option Addr} {oc_l_divisor kV_l_divisor dc_l_divisor pm_l_divisor cd_l_divisor ct_l_divisor : Value} {sl_l_divisor : Array (Option Value)} {f_l_fraction : Addr} {od_l_fraction an_l_fraction : Option Addr} {oc_l_fraction kV_l_fraction dc_l_fraction pm_l_fraction cd_l_fraction ct_l_fraction : Value} {sl_l_fraction : Array (Option Value)} {f_l_cell : Addr} {od_l_cell an_l_cell : Option Addr} {oc_l_cell kV_l_cell dc_l_cell pm_l_cell cd_l_cell ct_l_cell : Value} {sl_l_cell : Array (Option Value)} {f_less : Addr} {od_less an_less : Option Addr} {oc_less kV_less dc_less pm_less cd_less ct_less : Value} {sl_less : Array (Option Value)} {f_l_whole : Addr} {od_l_whole an_l_whole : Option Addr} {oc_l_whole kV_l_whole dc_l_whole pm_l_whole cd_l_whole ct_l_whole : Value} {sl_l_whole : Array (Option Value)} {f_l_is_fraction : Addr} {od_l_is_fraction an_l_is_fraction : Option Addr} {oc_l_is_fraction kV_l_is_fraction dc_l_is_fraction pm_l_is_fraction cd_l_is_fraction ct_l_is_fraction : Value} {sl_l_is_fraction : Array (Option Value)} {f_l_worth : Addr} {od_l_worth an_l_worth : Option Addr} {oc_l_worth kV_l_worth dc_l_worth pm_l_worth cd_l_worth ct_l_worth : Value} {sl_l_worth : Array (Option Value)} {f_divisor_of : Addr} {od_divisor_of an_divisor_of : Option Addr} {oc_divisor_of kV_divisor_of dc_divisor_of pm_divisor_of cd_divisor_of ct_divisor_of : Value} {sl_divisor_of : Array (Option Value)} {f_lowest : Addr} {od_lowest an_lowest : Option Addr} {oc_lowest kV_lowest dc_lowest pm_lowest cd_lowest ct_lowest : Value} {sl_lowest : Array (Option Value)} {f_NothingBy___init__ : Addr} {od_NothingBy___init__ an_NothingBy___init__ : Option Addr} {oc_NothingBy___init__ kV_NothingBy___init__ dc_NothingBy___init__ pm_NothingBy___init__ cd_NothingBy___init__ ct_NothingBy___init__ : Value} {sl_NothingBy___init__ : Array (Option Value)} {f_over : Addr} {od_over an_over : Option Addr} {oc_over kV_over dc_over pm_over cd_over ct_over : Value} {sl_over : Array (Option Value)} {f_l_over : Addr} {od_l_over an_l_over : Option Addr} {oc_l_over kV_l_over dc_l_over pm_l_over cd_l_over ct_l_over : Value} {sl_l_over : Array (Option Value)} {f_plus : Addr} {od_plus an_plus : Option Addr} {oc_plus kV_plus dc_plus pm_plus cd_plus ct_plus : Value} {sl_plus : Array (Option Value)} {f_minus : Addr} {od_minus an_minus : Option Addr} {oc_minus kV_minus dc_minus pm_minus cd_minus ct_minus : Value} {sl_minus : Array (Option Value)} {f_times : Addr} {od_times an_times : Option Addr} {oc_times kV_times dc_times pm_times cd_times ct_times : Value} {sl_times : Array (Option Value)} {f_l_pair : Addr} {od_l_pair an_l_pair : Option Addr} {oc_l_pair kV_l_pair dc_l_pair pm_l_pair cd_l_pair ct_l_pair : Value} {sl_l_pair : Array (Option Value)} {f_law : Addr} {od_law an_law : Option Addr} {oc_law kV_law dc_law pm_law cd_law ct_law : Value} {sl_law : Array (Option Value)}         
    (aw_WiseError : PySem.W.nsIn K mainGlobals "WiseError" = some (some (.ref C_WiseError)))
    (wt_WiseError : PySem.W.typeIn K (.ref C_WiseError) = some mc_WiseError)
    (wr_WiseError : PySem.W.readsIn K C_WiseError mc_WiseError = true)
    (wg_WiseError : PySem.W.specialIn K (.ref C_WiseError) "__getattribute__" = some (some (.builtin "type.__getattribute__")))
    (wc_WiseError : PySem.W.findCls K (.ref C_WiseError) mc_WiseError "__init__" = some (.val (.builtin "ValueError.__init__")))
    (ax_NoFraction : PySem.W.nsIn K mainGlobals "NoFraction" = some (some (.ref X_NoFraction)))
    (xl_NoFraction : K.lookup X_NoFraction = some (excClassObj nm_NoFraction q_NoFraction X_NoFraction N_NoFraction bs_NoFraction bm_NoFraction true sn_NoFraction sub_NoFraction ab_NoFraction col_NoFraction dd_NoFraction m0_NoFraction m1_NoFraction m2_NoFraction m3_NoFraction m5_NoFraction "ValueError.__new__"))
    (xv_NoFraction : PySem.HandSPX.refsVE bm_NoFraction = true)
    (xs_NoFraction : PySem.W.findIn K (.ref X_NoFraction) "__setattr__" = some (some (.builtin "object.__setattr__")))
    (xe_NoFraction : PySem.W.subIn K (.ref X_NoFraction) (.type "BaseException") = some true)
    (xt_NoFraction : PySem.W.typeIn K (.ref X_NoFraction) = some (.type "type"))
    (xk_NoFraction : PySem.W.keepIn K (.ref X_NoFraction) = true)
    (xg_NoFraction : PySem.W.findIn K (.ref X_NoFraction) "__getattribute__" = some (some (.builtin "BaseException.__getattribute__")))
    (xa_NoFraction : PySem.W.findIn K (.ref X_NoFraction) "__getattr__" = some none)
    (xd_NoFraction : PySem.W.hasDictIn K X_NoFraction = true)
    (xc_NoFraction : PySem.W.findIn K (.ref X_NoFraction) "__class__" = some (some (.builtin "object.__class__")))
    (xn_NoFraction : PySem.W.specialIn K (.builtin "object.__class__") "__get__" = some (some (.builtin "getset_descriptor.__get__")))
    (xq_NoFraction : PySem.W.takesIn K (.builtin "object.__class__") = some true)
    (xm_NoFraction : PySem.W.mroIn K X_NoFraction (.type "object") = some true)
    (ax_NothingBy : PySem.W.nsIn K mainGlobals "NothingBy" = some (some (.ref X_NothingBy)))
    (xl_NothingBy : K.lookup X_NothingBy = some (excClassObj nm_NothingBy q_NothingBy X_NothingBy N_NothingBy bs_NothingBy bm_NothingBy true sn_NothingBy sub_NothingBy ab_NothingBy col_NothingBy dd_NothingBy m0_NothingBy m1_NothingBy m2_NothingBy m3_NothingBy m5_NothingBy "ValueError.__new__"))
    (xv_NothingBy : PySem.HandSPX.refsVE bm_NothingBy = true)
    (xs_NothingBy : PySem.W.findIn K (.ref X_NothingBy) "__setattr__" = some (some (.builtin "object.__setattr__")))
    (xe_NothingBy : PySem.W.subIn K (.ref X_NothingBy) (.type "BaseException") = some true)
    (xt_NothingBy : PySem.W.typeIn K (.ref X_NothingBy) = some (.type "type"))
    (xk_NothingBy : PySem.W.keepIn K (.ref X_NothingBy) = true)
    (xg_NothingBy : PySem.W.findIn K (.ref X_NothingBy) "__getattribute__" = some (some (.builtin "BaseException.__getattribute__")))
    (xa_NothingBy : PySem.W.findIn K (.ref X_NothingBy) "__getattr__" = some none)
    (xd_NothingBy : PySem.W.hasDictIn K X_NothingBy = true)
    (xc_NothingBy : PySem.W.findIn K (.ref X_NothingBy) "__class__" = some (some (.builtin "object.__class__")))
    (xn_NothingBy : PySem.W.specialIn K (.builtin "object.__class__") "__get__" = some (some (.builtin "getset_descriptor.__get__")))
    (xq_NothingBy : PySem.W.takesIn K (.builtin "object.__class__") = some true)
    (xm_NothingBy : PySem.W.mroIn K X_NothingBy (.type "object") = some true)
    (e1_NothingBy_WiseError : PySem.W.subIn K (.ref C_WiseError) (.type "BaseException") = some true)
    (e2_NothingBy_WiseError : PySem.W.hasDictIn K C_WiseError = true)
    (e3_NothingBy_WiseError : PySem.W.typeIn K (.ref C_WiseError) = some (.type "type"))
    (e4_NothingBy_WiseError : PySem.W.subIn K (.ref X_NothingBy) (.ref C_WiseError) = some true)
    (k1_NothingBy_NoFraction : (Value.ref X_NothingBy == Value.ref X_NoFraction) = false)
    (k2_NothingBy_NoFraction : PySem.W.isClsIn K X_NoFraction = true)
    (k3_NothingBy_NoFraction : PySem.W.typeIn K (.ref X_NoFraction) = some (.type "type"))
    (k4_NothingBy_NoFraction : PySem.W.subIn K (.ref X_NothingBy) (.ref X_NoFraction) = some false)
    (a_l_begun : PySem.W.nsIn K mainGlobals "_law_begun" = some (some (.ref f_l_begun)))
    (l_l_begun : K.lookup f_l_begun = some ⟨oc_l_begun, od_l_begun, .func (PySem.W.fnOf "_law_begun" "_law_begun" (defArgs s_l_begun) (defBody s_l_begun) (defScope s_l_begun) .none kV_l_begun dc_l_begun pm_l_begun an_l_begun cd_l_begun ct_l_begun), sl_l_begun⟩)
    (c_l_begun : PySem.W.codeIn K cd_l_begun "_law_begun" = true)
    (k_l_begun : PySem.W.keepIn K (.ref f_l_begun) = true)
    (a_l_draw : PySem.W.nsIn K mainGlobals "_law_draw" = some (some (.ref f_l_draw)))
    (l_l_draw : K.lookup f_l_draw = some ⟨oc_l_draw, od_l_draw, .func (PySem.W.fnOf "_law_draw" "_law_draw" (defArgs s_l_draw) (defBody s_l_draw) (defScope s_l_draw) .none kV_l_draw dc_l_draw pm_l_draw an_l_draw cd_l_draw ct_l_draw), sl_l_draw⟩)
    (c_l_draw : PySem.W.codeIn K cd_l_draw "_law_draw" = true)
    (k_l_draw : PySem.W.keepIn K (.ref f_l_draw) = true)
    (a_l_number : PySem.W.nsIn K mainGlobals "_law_number" = some (some (.ref f_l_number)))
    (l_l_number : K.lookup f_l_number = some ⟨oc_l_number, od_l_number, .func (PySem.W.fnOf "_law_number" "_law_number" (defArgs s_l_number) (defBody s_l_number) (defScope s_l_number) .none kV_l_number dc_l_number pm_l_number an_l_number cd_l_number ct_l_number), sl_l_number⟩)
    (c_l_number : PySem.W.codeIn K cd_l_number "_law_number" = true)
    (k_l_number : PySem.W.keepIn K (.ref f_l_number) = true)
    (a_l_divisor : PySem.W.nsIn K mainGlobals "_law_divisor" = some (some (.ref f_l_divisor)))
    (l_l_divisor : K.lookup f_l_divisor = some ⟨oc_l_divisor, od_l_divisor, .func (PySem.W.fnOf "_law_divisor" "_law_divisor" (defArgs s_l_divisor) (defBody s_l_divisor) (defScope s_l_divisor) .none kV_l_divisor dc_l_divisor pm_l_divisor an_l_divisor cd_l_divisor ct_l_divisor), sl_l_divisor⟩)
    (c_l_divisor : PySem.W.codeIn K cd_l_divisor "_law_divisor" = true)
    (k_l_divisor : PySem.W.keepIn K (.ref f_l_divisor) = true)
    (a_l_fraction : PySem.W.nsIn K mainGlobals "_law_fraction" = some (some (.ref f_l_fraction)))
    (l_l_fraction : K.lookup f_l_fraction = some ⟨oc_l_fraction, od_l_fraction, .func (PySem.W.fnOf "_law_fraction" "_law_fraction" (defArgs s_l_fraction) (defBody s_l_fraction) (defScope s_l_fraction) .none kV_l_fraction dc_l_fraction pm_l_fraction an_l_fraction cd_l_fraction ct_l_fraction), sl_l_fraction⟩)
    (c_l_fraction : PySem.W.codeIn K cd_l_fraction "_law_fraction" = true)
    (k_l_fraction : PySem.W.keepIn K (.ref f_l_fraction) = true)
    (a_l_cell : PySem.W.nsIn K mainGlobals "_law_cell" = some (some (.ref f_l_cell)))
    (l_l_cell : K.lookup f_l_cell = some ⟨oc_l_cell, od_l_cell, .func (PySem.W.fnOf "_law_cell" "_law_cell" (defArgs s_l_cell) (defBody s_l_cell) (defScope s_l_cell) .none kV_l_cell dc_l_cell pm_l_cell an_l_cell cd_l_cell ct_l_cell), sl_l_cell⟩)
    (c_l_cell : PySem.W.codeIn K cd_l_cell "_law_cell" = true)
    (k_l_cell : PySem.W.keepIn K (.ref f_l_cell) = true)
    (a_less : PySem.W.nsIn K mainGlobals "less" = some (some (.ref f_less)))
    (l_less : K.lookup f_less = some ⟨oc_less, od_less, .func (PySem.W.fnOf "less" "less" (defArgs s_less) (defBody s_less) (defScope s_less) .none kV_less dc_less pm_less an_less cd_less ct_less), sl_less⟩)
    (c_less : PySem.W.codeIn K cd_less "less" = true)
    (k_less : PySem.W.keepIn K (.ref f_less) = true)
    (a_l_whole : PySem.W.nsIn K mainGlobals "_law_whole" = some (some (.ref f_l_whole)))
    (l_l_whole : K.lookup f_l_whole = some ⟨oc_l_whole, od_l_whole, .func (PySem.W.fnOf "_law_whole" "_law_whole" (defArgs s_l_whole) (defBody s_l_whole) (defScope s_l_whole) .none kV_l_whole dc_l_whole pm_l_whole an_l_whole cd_l_whole ct_l_whole), sl_l_whole⟩)
    (c_l_whole : PySem.W.codeIn K cd_l_whole "_law_whole" = true)
    (k_l_whole : PySem.W.keepIn K (.ref f_l_whole) = true)
    (a_l_is_fraction : PySem.W.nsIn K mainGlobals "_law_is_fraction" = some (some (.ref f_l_is_fraction)))
    (l_l_is_fraction : K.lookup f_l_is_fraction = some ⟨oc_l_is_fraction, od_l_is_fraction, .func (PySem.W.fnOf "_law_is_fraction" "_law_is_fraction" (defArgs s_l_is_fraction) (defBody s_l_is_fraction) (defScope s_l_is_fraction) .none kV_l_is_fraction dc_l_is_fraction pm_l_is_fraction an_l_is_fraction cd_l_is_fraction ct_l_is_fraction), sl_l_is_fraction⟩)
    (c_l_is_fraction : PySem.W.codeIn K cd_l_is_fraction "_law_is_fraction" = true)
    (k_l_is_fraction : PySem.W.keepIn K (.ref f_l_is_fraction) = true)
    (a_l_worth : PySem.W.nsIn K mainGlobals "_law_worth" = some (some (.ref f_l_worth)))
    (l_l_worth : K.lookup f_l_worth = some ⟨oc_l_worth, od_l_worth, .func (PySem.W.fnOf "_law_worth" "_law_worth" (defArgs s_l_worth) (defBody s_l_worth) (defScope s_l_worth) .none kV_l_worth dc_l_worth pm_l_worth an_l_worth cd_l_worth ct_l_worth), sl_l_worth⟩)
    (c_l_worth : PySem.W.codeIn K cd_l_worth "_law_worth" = true)
    (k_l_worth : PySem.W.keepIn K (.ref f_l_worth) = true)
    (a_divisor_of : PySem.W.nsIn K mainGlobals "divisor_of" = some (some (.ref f_divisor_of)))
    (l_divisor_of : K.lookup f_divisor_of = some ⟨oc_divisor_of, od_divisor_of, .func (PySem.W.fnOf "divisor_of" "divisor_of" (defArgs s_divisor_of) (defBody s_divisor_of) (defScope s_divisor_of) .none kV_divisor_of dc_divisor_of pm_divisor_of an_divisor_of cd_divisor_of ct_divisor_of), sl_divisor_of⟩)
    (c_divisor_of : PySem.W.codeIn K cd_divisor_of "divisor_of" = true)
    (k_divisor_of : PySem.W.keepIn K (.ref f_divisor_of) = true)
    (a_lowest : PySem.W.nsIn K mainGlobals "lowest" = some (some (.ref f_lowest)))
    (l_lowest : K.lookup f_lowest = some ⟨oc_lowest, od_lowest, .func (PySem.W.fnOf "lowest" "lowest" (defArgs s_lowest) (defBody s_lowest) (defScope s_lowest) .none kV_lowest dc_lowest pm_lowest an_lowest cd_lowest ct_lowest), sl_lowest⟩)
    (c_lowest : PySem.W.codeIn K cd_lowest "lowest" = true)
    (k_lowest : PySem.W.keepIn K (.ref f_lowest) = true)
    (a_NothingBy___init__ : PySem.W.findIn K (.ref X_NothingBy) "__init__" = some (some (.ref f_NothingBy___init__)))
    (t_NothingBy___init__ : PySem.W.typeIn K (.ref f_NothingBy___init__) = some (.type "function"))
    (l_NothingBy___init__ : K.lookup f_NothingBy___init__ = some ⟨oc_NothingBy___init__, od_NothingBy___init__, .func (PySem.W.fnOf "__init__" "NothingBy.__init__" (defArgs s_NothingBy___init__) (defBody s_NothingBy___init__) (defScope s_NothingBy___init__) .none kV_NothingBy___init__ dc_NothingBy___init__ pm_NothingBy___init__ an_NothingBy___init__ cd_NothingBy___init__ ct_NothingBy___init__), sl_NothingBy___init__⟩)
    (c_NothingBy___init__ : PySem.W.codeIn K cd_NothingBy___init__ "NothingBy.__init__" = true)
    (k_NothingBy___init__ : PySem.W.keepIn K (.ref f_NothingBy___init__) = true)
    (a_over : PySem.W.nsIn K mainGlobals "over" = some (some (.ref f_over)))
    (l_over : K.lookup f_over = some ⟨oc_over, od_over, .func (PySem.W.fnOf "over" "over" (defArgs s_over) (defBody s_over) (defScope s_over) .none kV_over dc_over pm_over an_over cd_over ct_over), sl_over⟩)
    (c_over : PySem.W.codeIn K cd_over "over" = true)
    (k_over : PySem.W.keepIn K (.ref f_over) = true)
    (a_l_over : PySem.W.nsIn K mainGlobals "_law_over" = some (some (.ref f_l_over)))
    (l_l_over : K.lookup f_l_over = some ⟨oc_l_over, od_l_over, .func (PySem.W.fnOf "_law_over" "_law_over" (defArgs s_l_over) (defBody s_l_over) (defScope s_l_over) .none kV_l_over dc_l_over pm_l_over an_l_over cd_l_over ct_l_over), sl_l_over⟩)
    (c_l_over : PySem.W.codeIn K cd_l_over "_law_over" = true)
    (k_l_over : PySem.W.keepIn K (.ref f_l_over) = true)
    (a_plus : PySem.W.nsIn K mainGlobals "plus" = some (some (.ref f_plus)))
    (l_plus : K.lookup f_plus = some ⟨oc_plus, od_plus, .func (PySem.W.fnOf "plus" "plus" (defArgs s_plus) (defBody s_plus) (defScope s_plus) .none kV_plus dc_plus pm_plus an_plus cd_plus ct_plus), sl_plus⟩)
    (c_plus : PySem.W.codeIn K cd_plus "plus" = true)
    (k_plus : PySem.W.keepIn K (.ref f_plus) = true)
    (a_minus : PySem.W.nsIn K mainGlobals "minus" = some (some (.ref f_minus)))
    (l_minus : K.lookup f_minus = some ⟨oc_minus, od_minus, .func (PySem.W.fnOf "minus" "minus" (defArgs s_minus) (defBody s_minus) (defScope s_minus) .none kV_minus dc_minus pm_minus an_minus cd_minus ct_minus), sl_minus⟩)
    (c_minus : PySem.W.codeIn K cd_minus "minus" = true)
    (k_minus : PySem.W.keepIn K (.ref f_minus) = true)
    (a_times : PySem.W.nsIn K mainGlobals "times" = some (some (.ref f_times)))
    (l_times : K.lookup f_times = some ⟨oc_times, od_times, .func (PySem.W.fnOf "times" "times" (defArgs s_times) (defBody s_times) (defScope s_times) .none kV_times dc_times pm_times an_times cd_times ct_times), sl_times⟩)
    (c_times : PySem.W.codeIn K cd_times "times" = true)
    (k_times : PySem.W.keepIn K (.ref f_times) = true)
    (a_l_pair : PySem.W.nsIn K mainGlobals "_law_pair" = some (some (.ref f_l_pair)))
    (l_l_pair : K.lookup f_l_pair = some ⟨oc_l_pair, od_l_pair, .func (PySem.W.fnOf "_law_pair" "_law_pair" (defArgs s_l_pair) (defBody s_l_pair) (defScope s_l_pair) .none kV_l_pair dc_l_pair pm_l_pair an_l_pair cd_l_pair ct_l_pair), sl_l_pair⟩)
    (c_l_pair : PySem.W.codeIn K cd_l_pair "_law_pair" = true)
    (k_l_pair : PySem.W.keepIn K (.ref f_l_pair) = true)
    (a_law : PySem.W.nsIn K mainGlobals "law" = some (some (.ref f_law)))
    (l_law : K.lookup f_law = some ⟨oc_law, od_law, .func (PySem.W.fnOf "law" "law" (defArgs s_law) (defBody s_law) (defScope s_law) .none kV_law dc_law pm_law an_law cd_law ct_law), sl_law⟩)
    (c_law : PySem.W.codeIn K cd_law "law" = true)
    (k_law : PySem.W.keepIn K (.ref f_law) = true)
    (zz_abs : PySem.W.nsIn K mainGlobals "abs" = some none)
    (zz_len : PySem.W.nsIn K mainGlobals "len" = some none)
    (zz_isinstance : PySem.W.nsIn K mainGlobals "isinstance" = some none)
    (zz_bool : PySem.W.nsIn K mainGlobals "bool" = some none)
    (zz_int : PySem.W.nsIn K mainGlobals "int" = some none)
    (zz_tuple : PySem.W.nsIn K mainGlobals "tuple" = some none)
    (zz_range : PySem.W.nsIn K mainGlobals "range" = some none)
    (zz_max : PySem.W.nsIn K mainGlobals "max" = some none)
    (zz_min : PySem.W.nsIn K mainGlobals "min" = some none) : Tx K mg where
  w_WiseError := ⟨C_WiseError, PySem.W.mg_of X G aw_WiseError, mc_WiseError, ⟨wr_WiseError, wg_WiseError⟩, wc_WiseError⟩
  x_NoFraction := ⟨X_NoFraction, PySem.W.mg_of X G ax_NoFraction, ⟨⟨_, _, _, _, _, _, _, _, _, _, _, _, _, _, _, xl_NoFraction, xv_NoFraction⟩, xs_NoFraction, xe_NoFraction, xt_NoFraction, xk_NoFraction⟩, ⟨xg_NoFraction, xa_NoFraction, xe_NoFraction, xd_NoFraction, xc_NoFraction, xn_NoFraction, xq_NoFraction, xm_NoFraction⟩⟩
  x_NothingBy := ⟨X_NothingBy, PySem.W.mg_of X G ax_NothingBy, ⟨⟨_, _, _, _, _, _, _, _, _, _, _, _, _, _, _, xl_NothingBy, xv_NothingBy⟩, xs_NothingBy, xe_NothingBy, xt_NothingBy, xk_NothingBy⟩, ⟨xg_NothingBy, xa_NothingBy, xe_NothingBy, xd_NothingBy, xc_NothingBy, xn_NothingBy, xq_NothingBy, xm_NothingBy⟩⟩
  exm_NothingBy_WiseError := PySem.W.exm_ref e1_NothingBy_WiseError e2_NothingBy_WiseError e3_NothingBy_WiseError e4_NothingBy_WiseError
  kit_NothingBy_NoFraction := Ow.kit_sub k1_NothingBy_NoFraction k2_NothingBy_NoFraction k3_NothingBy_NoFraction k4_NothingBy_NoFraction
  kit_NothingBy_NothingBy := Ow.kit_self
  d_l_begun := ⟨f_l_begun, _, fun_mk (st := s_l_begun) l_l_begun c_l_begun k_l_begun, (fun_mk (st := s_l_begun) l_l_begun c_l_begun k_l_begun).binds fun _ _ _ _ _ _ us hl => match us, hl with | [_], _ => rfl, PySem.W.mg_of X G a_l_begun⟩
  d_l_draw := ⟨f_l_draw, _, fun_mk (st := s_l_draw) l_l_draw c_l_draw k_l_draw, (fun_mk (st := s_l_draw) l_l_draw c_l_draw k_l_draw).binds fun _ _ _ _ _ _ us hl => match us, hl with | [_, _], _ => rfl, PySem.W.mg_of X G a_l_draw⟩
  d_l_number := ⟨f_l_number, _, fun_mk (st := s_l_number) l_l_number c_l_number k_l_number, (fun_mk (st := s_l_number) l_l_number c_l_number k_l_number).binds fun _ _ _ _ _ _ us hl => match us, hl with | [_, _], _ => rfl, PySem.W.mg_of X G a_l_number⟩
  d_l_divisor := ⟨f_l_divisor, _, fun_mk (st := s_l_divisor) l_l_divisor c_l_divisor k_l_divisor, (fun_mk (st := s_l_divisor) l_l_divisor c_l_divisor k_l_divisor).binds fun _ _ _ _ _ _ us hl => match us, hl with | [_, _], _ => rfl, PySem.W.mg_of X G a_l_divisor⟩
  d_l_fraction := ⟨f_l_fraction, _, fun_mk (st := s_l_fraction) l_l_fraction c_l_fraction k_l_fraction, (fun_mk (st := s_l_fraction) l_l_fraction c_l_fraction k_l_fraction).binds fun _ _ _ _ _ _ us hl => match us, hl with | [_, _], _ => rfl, PySem.W.mg_of X G a_l_fraction⟩
  d_l_cell := ⟨f_l_cell, _, fun_mk (st := s_l_cell) l_l_cell c_l_cell k_l_cell, (fun_mk (st := s_l_cell) l_l_cell c_l_cell k_l_cell).binds fun _ _ _ _ _ _ us hl => match us, hl with | [_, _], _ => rfl, PySem.W.mg_of X G a_l_cell⟩
  d_less := ⟨f_less, _, fun_mk (st := s_less) l_less c_less k_less, (fun_mk (st := s_less) l_less c_less k_less).binds fun _ _ _ _ _ _ us hl => match us, hl with | [_, _], _ => rfl, PySem.W.mg_of X G a_less⟩
  d_l_whole := ⟨f_l_whole, _, fun_mk (st := s_l_whole) l_l_whole c_l_whole k_l_whole, (fun_mk (st := s_l_whole) l_l_whole c_l_whole k_l_whole).binds fun _ _ _ _ _ _ us hl => match us, hl with | [_], _ => rfl, PySem.W.mg_of X G a_l_whole⟩
  d_l_is_fraction := ⟨f_l_is_fraction, _, fun_mk (st := s_l_is_fraction) l_l_is_fraction c_l_is_fraction k_l_is_fraction, (fun_mk (st := s_l_is_fraction) l_l_is_fraction c_l_is_fraction k_l_is_fraction).binds fun _ _ _ _ _ _ us hl => match us, hl with | [_], _ => rfl, PySem.W.mg_of X G a_l_is_fraction⟩
  d_l_worth := ⟨f_l_worth, _, fun_mk (st := s_l_worth) l_l_worth c_l_worth k_l_worth, (fun_mk (st := s_l_worth) l_l_worth c_l_worth k_l_worth).binds fun _ _ _ _ _ _ us hl => match us, hl with | [_, _, _], _ => rfl, PySem.W.mg_of X G a_l_worth⟩
  d_divisor_of := ⟨f_divisor_of, _, fun_mk (st := s_divisor_of) l_divisor_of c_divisor_of k_divisor_of, (fun_mk (st := s_divisor_of) l_divisor_of c_divisor_of k_divisor_of).binds fun _ _ _ _ _ _ us hl => match us, hl with | [_, _], _ => rfl, PySem.W.mg_of X G a_divisor_of⟩
  d_lowest := ⟨f_lowest, _, fun_mk (st := s_lowest) l_lowest c_lowest k_lowest, (fun_mk (st := s_lowest) l_lowest c_lowest k_lowest).binds fun _ _ _ _ _ _ us hl => match us, hl with | [_, _], _ => rfl, PySem.W.mg_of X G a_lowest⟩
  i_NothingBy := ⟨f_NothingBy___init__, _, fun_mk (st := s_NothingBy___init__) l_NothingBy___init__ c_NothingBy___init__ k_NothingBy___init__, (fun_mk (st := s_NothingBy___init__) l_NothingBy___init__ c_NothingBy___init__ k_NothingBy___init__).binds fun _ _ _ _ _ _ us hl => match us, hl with | [_], _ => rfl, a_NothingBy___init__, t_NothingBy___init__⟩
  d_over := ⟨f_over, _, fun_mk (st := s_over) l_over c_over k_over, (fun_mk (st := s_over) l_over c_over k_over).binds fun _ _ _ _ _ _ us hl => match us, hl with | [_, _], _ => rfl, PySem.W.mg_of X G a_over⟩
  d_l_over := ⟨f_l_over, _, fun_mk (st := s_l_over) l_l_over c_l_over k_l_over, (fun_mk (st := s_l_over) l_l_over c_l_over k_l_over).binds fun _ _ _ _ _ _ us hl => match us, hl with | [_, _], _ => rfl, PySem.W.mg_of X G a_l_over⟩
  d_plus := ⟨f_plus, _, fun_mk (st := s_plus) l_plus c_plus k_plus, (fun_mk (st := s_plus) l_plus c_plus k_plus).binds fun _ _ _ _ _ _ us hl => match us, hl with | [_, _], _ => rfl, PySem.W.mg_of X G a_plus⟩
  d_minus := ⟨f_minus, _, fun_mk (st := s_minus) l_minus c_minus k_minus, (fun_mk (st := s_minus) l_minus c_minus k_minus).binds fun _ _ _ _ _ _ us hl => match us, hl with | [_, _], _ => rfl, PySem.W.mg_of X G a_minus⟩
  d_times := ⟨f_times, _, fun_mk (st := s_times) l_times c_times k_times, (fun_mk (st := s_times) l_times c_times k_times).binds fun _ _ _ _ _ _ us hl => match us, hl with | [_, _], _ => rfl, PySem.W.mg_of X G a_times⟩
  d_l_pair := ⟨f_l_pair, _, fun_mk (st := s_l_pair) l_l_pair c_l_pair k_l_pair, (fun_mk (st := s_l_pair) l_l_pair c_l_pair k_l_pair).binds fun _ _ _ _ _ _ us hl => match us, hl with | [_, _], _ => rfl, PySem.W.mg_of X G a_l_pair⟩
  d_law := ⟨f_law, _, fun_mk (st := s_law) l_law c_law k_law, (fun_mk (st := s_law) l_law c_law k_law).binds fun _ _ _ _ _ _ us hl => match us, hl with | [_], _ => rfl, PySem.W.mg_of X G a_law⟩
  z_abs := PySem.W.mg_none_of X G zz_abs
  z_len := PySem.W.mg_none_of X G zz_len
  z_isinstance := PySem.W.mg_none_of X G zz_isinstance
  z_bool := PySem.W.mg_none_of X G zz_bool
  z_int := PySem.W.mg_none_of X G zz_int
  z_tuple := PySem.W.mg_none_of X G zz_tuple
  z_range := PySem.W.mg_none_of X G zz_range
  z_max := PySem.W.mg_none_of X G zz_max
  z_min := PySem.W.mg_none_of X G zz_min
theorem all_mk {l : PySem.W.OpenLaw} {w : World} {K : PySem.W.Frag} {h : Heap} {mg : Str → Option Value} {fa : Addr} (hfa : mg "law" = some (.ref fa)) (T : Tx K mg) :
    ∃ fd : FuncData, (∀ (s : Shared) (v : Value), BindsTo s fd ⟨[v], []⟩ [("_law_script", v)]) ∧ ∀ base : Heap, K.In base → base.Ns mainGlobals mg → FnOk l.prog w K mg base CX0 6 fa fd ["_law_script"] (sp_law K) := by
  have e := hfa.symm.trans T.d_law.m
  cases e
  refine ⟨T.d_law.fd, fun s v => ?_, fun base _ _ => ok_law T⟩
  obtain ⟨oc, od, kV, doc, pm, an, cdv, ct, osl, e, _, _⟩ := T.d_law.F.ex
  rw [e]
  exact .of_eq rfl
theorem walk {l : PySem.W.OpenLaw} {q : Program} {loose : List Str} {XP : (Str → Option Value) → Heap → Prop} {YP : World → Heap → Prop} {d : DefRec} {K : Params → PySem.W.Frag} (hn : l.most = some 63) (hdf : d.params.defaults = [])
    (hY : ∀ (w : World) (h : Heap), YP w h → (K w.params).In h)
    (F : ∀ (w : World) (mg : Str → Option Value) (fa : Addr) (h : Heap), (K w.params).In h → h.Ns mainGlobals mg → mg d.name = some (.ref fa) →
      ∃ fd : FuncData, (∀ (s : Shared) (u : Value), BindsTo s fd ⟨[u], []⟩ [("_law_script", u)]) ∧ ∀ base : Heap, (K w.params).In base → base.Ns mainGlobals mg → FnOk l.prog w (K w.params) mg base CX0 6 fa fd ["_law_script"] (sp_law (K w.params))) :
    PySem.W.WalkO q loose XP YP l.row.toRowW d [] (fun f vs => PySem.call f vs) :=
  L2.walk_of (n := 63) (k := 6) (x := "_law_script") (CX := fun _ => CX0) (sp := fun w => sp_law (K w.params)) hn (by decide) hdf ⟨rfl, by decide, by decide⟩ hY F (fun _ _ a ns hl _ hS => ⟨a, ns, rfl, hS, hl, fun _ _ => rfl⟩) fun _ _ _ _ _ z => z
end Ow
open PySem PySem.W PyProof.Rows
set_option maxRecDepth 100000 in
set_option maxHeartbeats 0 in
theorem PySem.Challenge.cw_overwise_k12_sums_crosswise_holds : PySem.Challenge.rw_overwise_k12_sums_crosswise.Holds := by
  w_on; o_law; k_head; (case hw => w_witness2)
  k_fill
  refine _root_.Ow.walk (l := PySem.Challenge.rw_overwise_k12_sums_crosswise) rfl rfl (fun w h Y => PySem.W.kIn_of Y) ?F
  case F =>
    intro w mg fa h KX G hmg
    refine' _root_.Ow.all_mk (h := h) hmg (_root_.Ow.tx_mk KX G ?aw_WiseError ?wt_WiseError ?wr_WiseError ?wg_WiseError ?wc_WiseError ?ax_NoFraction ?xl_NoFraction ?xv_NoFraction ?xs_NoFraction ?xe_NoFraction ?xt_NoFraction ?xk_NoFraction ?xg_NoFraction ?xa_NoFraction ?xd_NoFraction ?xc_NoFraction ?xn_NoFraction ?xq_NoFraction ?xm_NoFraction ?ax_NothingBy ?xl_NothingBy ?xv_NothingBy ?xs_NothingBy ?xe_NothingBy ?xt_NothingBy ?xk_NothingBy ?xg_NothingBy ?xa_NothingBy ?xd_NothingBy ?xc_NothingBy ?xn_NothingBy ?xq_NothingBy ?xm_NothingBy ?e1_NothingBy_WiseError ?e2_NothingBy_WiseError ?e3_NothingBy_WiseError ?e4_NothingBy_WiseError ?k1_NothingBy_NoFraction ?k2_NothingBy_NoFraction ?k3_NothingBy_NoFraction ?k4_NothingBy_NoFraction ?a_l_begun ?l_l_begun ?c_l_begun ?k_l_begun ?a_l_draw ?l_l_draw ?c_l_draw ?k_l_draw ?a_l_number ?l_l_number ?c_l_number ?k_l_number ?a_l_divisor ?l_l_divisor ?c_l_divisor ?k_l_divisor ?a_l_fraction ?l_l_fraction ?c_l_fraction ?k_l_fraction ?a_l_cell ?l_l_cell ?c_l_cell ?k_l_cell ?a_less ?l_less ?c_less ?k_less ?a_l_whole ?l_l_whole ?c_l_whole ?k_l_whole ?a_l_is_fraction ?l_l_is_fraction ?c_l_is_fraction ?k_l_is_fraction ?a_l_worth ?l_l_worth ?c_l_worth ?k_l_worth ?a_divisor_of ?l_divisor_of ?c_divisor_of ?k_divisor_of ?a_lowest ?l_lowest ?c_lowest ?k_lowest ?a_NothingBy___init__ ?t_NothingBy___init__ ?l_NothingBy___init__ ?c_NothingBy___init__ ?k_NothingBy___init__ ?a_over ?l_over ?c_over ?k_over ?a_l_over ?l_l_over ?c_l_over ?k_l_over ?a_plus ?l_plus ?c_plus ?k_plus ?a_minus ?l_minus ?c_minus ?k_minus ?a_times ?l_times ?c_times ?k_times ?a_l_pair ?l_l_pair ?c_l_pair ?k_l_pair ?a_law ?l_law ?c_law ?k_law ?zz_abs ?zz_len ?zz_isinstance ?zz_bool ?zz_int ?zz_tuple ?zz_range ?zz_max ?zz_min)
    (case aw_WiseError => k_is)
    (case wt_WiseError => k_is)
    (case wr_WiseError => k_is)
    (case wg_WiseError => k_is)
    (case wc_WiseError => k_is)
    (case ax_NoFraction => k_is)
    (case xl_NoFraction => k_is)
    (case xv_NoFraction => decide +kernel)
    (case xs_NoFraction => k_is)
    (case xe_NoFraction => k_is)
    (case xt_NoFraction => k_is)
    (case xk_NoFraction => k_is)
    (case xg_NoFraction => k_is)
    (case xa_NoFraction => k_is)
    (case xd_NoFraction => k_is)
    (case xc_NoFraction => k_is)
    (case xn_NoFraction => k_is)
    (case xq_NoFraction => k_is)
    (case xm_NoFraction => k_is)
    (case ax_NothingBy => k_is)
    (case xl_NothingBy => k_is)
    (case xv_NothingBy => decide +kernel)
    (case xs_NothingBy => k_is)
    (case xe_NothingBy => k_is)
    (case xt_NothingBy => k_is)
    (case xk_NothingBy => k_is)
    (case xg_NothingBy => k_is)
    (case xa_NothingBy => k_is)
    (case xd_NothingBy => k_is)
    (case xc_NothingBy => k_is)
    (case xn_NothingBy => k_is)
    (case xq_NothingBy => k_is)
    (case xm_NothingBy => k_is)
    (case e1_NothingBy_WiseError => k_is)
    (case e2_NothingBy_WiseError => k_is)
    (case e3_NothingBy_WiseError => k_is)
    (case e4_NothingBy_WiseError => first | rfl | k_is)
    (case k1_NothingBy_NoFraction => first | rfl | decide)
    (case k2_NothingBy_NoFraction => k_is)
    (case k3_NothingBy_NoFraction => k_is)
    (case k4_NothingBy_NoFraction => k_is)
    (case a_l_begun => k_is)
    (case l_l_begun => k_is)
    (case c_l_begun => k_is)
    (case k_l_begun => k_is)
    (case a_l_draw => k_is)
    (case l_l_draw => k_is)
    (case c_l_draw => k_is)
    (case k_l_draw => k_is)
    (case a_l_number => k_is)
    (case l_l_number => k_is)
    (case c_l_number => k_is)
    (case k_l_number => k_is)
    (case a_l_divisor => k_is)
    (case l_l_divisor => k_is)
    (case c_l_divisor => k_is)
    (case k_l_divisor => k_is)
    (case a_l_fraction => k_is)
    (case l_l_fraction => k_is)
    (case c_l_fraction => k_is)
    (case k_l_fraction => k_is)
    (case a_l_cell => k_is)
    (case l_l_cell => k_is)
    (case c_l_cell => k_is)
    (case k_l_cell => k_is)
    (case a_less => k_is)
    (case l_less => k_is)
    (case c_less => k_is)
    (case k_less => k_is)
    (case a_l_whole => k_is)
    (case l_l_whole => k_is)
    (case c_l_whole => k_is)
    (case k_l_whole => k_is)
    (case a_l_is_fraction => k_is)
    (case l_l_is_fraction => k_is)
    (case c_l_is_fraction => k_is)
    (case k_l_is_fraction => k_is)
    (case a_l_worth => k_is)
    (case l_l_worth => k_is)
    (case c_l_worth => k_is)
    (case k_l_worth => k_is)
    (case a_divisor_of => k_is)
    (case l_divisor_of => k_is)
    (case c_divisor_of => k_is)
    (case k_divisor_of => k_is)
    (case a_lowest => k_is)
    (case l_lowest => k_is)
    (case c_lowest => k_is)
    (case k_lowest => k_is)
    (case a_NothingBy___init__ => k_is)
    (case t_NothingBy___init__ => k_is)
    (case l_NothingBy___init__ => k_is)
    (case c_NothingBy___init__ => k_is)
    (case k_NothingBy___init__ => k_is)
    (case a_over => k_is)
    (case l_over => k_is)
    (case c_over => k_is)
    (case k_over => k_is)
    (case a_l_over => k_is)
    (case l_l_over => k_is)
    (case c_l_over => k_is)
    (case k_l_over => k_is)
    (case a_plus => k_is)
    (case l_plus => k_is)
    (case c_plus => k_is)
    (case k_plus => k_is)
    (case a_minus => k_is)
    (case l_minus => k_is)
    (case c_minus => k_is)
    (case k_minus => k_is)
    (case a_times => k_is)
    (case l_times => k_is)
    (case c_times => k_is)
    (case k_times => k_is)
    (case a_l_pair => k_is)
    (case l_l_pair => k_is)
    (case c_l_pair => k_is)
    (case k_l_pair => k_is)
    (case a_law => k_is)
    (case l_law => k_is)
    (case c_law => k_is)
    (case k_law => k_is)
    (case zz_abs => k_is)
    (case zz_len => k_is)
    (case zz_isinstance => k_is)
    (case zz_bool => k_is)
    (case zz_int => k_is)
    (case zz_tuple => k_is)
    (case zz_range => k_is)
    (case zz_max => k_is)
    (case zz_min => k_is)
