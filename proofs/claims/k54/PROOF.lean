import PyProof.Rows.All
import Wide.All
import OpenK.AllK
import Wide.FinOn
import HandS.ForMost
import HandS.Wide
import HandS.WideBits
import HandS.IsInst
import HandS.Style
import HandS.ForExc
import HandS.New0
import HandS.ExcInit
import HandS.ExcIs
import HandS.ClsMeth
import HandS.NoneIn
import HandS.Conv
import PySem.Challenge.RW_overwise_k54_guesses_by_bits
set_option Elab.async false
set_option linter.all false
set_option maxRecDepth 100000
set_option maxHeartbeats 4000000
/-! ### own rules and steps -/
namespace Ow
open PySem L2
section
variable {Q : VK} {H H' : Hp} {A B : Prop}
theorem gi {e : Int} (h : ∀ x, x = e → Q (.int x) H) : Q (.int e) H := h e rfl
theorem gl {e n : Int} (h : e = n) (q : Q (.int n) H) : Q (.int e) H := h ▸ q
theorem gs {e n : Str} (h : e = n) (q : Q (.str n) H) : Q (.str e) H := h ▸ q
theorem cc {v : V} {σ : L2.St} (h : Q v H) : tC v σ H Q := h
theorem p2 (k : Nat) : (0 : Int) < 2 ^ k := Int.pow_pos (by decide)
theorem gpow {k : Nat} (h : ∀ x, x = (2 : Int) ^ k → 0 < x → Q (.int x) H) : Q (.int (1 * 2 ^ k)) H := by
  rw [Int.one_mul]; exact h _ rfl (p2 k)
theorem gmod {i j : Int} (hj : 0 < j) (h : ∀ x, x = i % j → 0 ≤ x → x < j → Q (.int x) H) : Q (.int (i % j)) H :=
  h _ rfl (Int.emod_nonneg _ (by omega)) (Int.emod_lt_of_pos _ hj)
theorem gmax {i j : Int} (h : ∀ x, (i ≤ x ∧ j ≤ x ∧ (x = i ∨ x = j)) → Q (.int x) H) : Q (.int (if j > i then j else i)) H := by
  apply h; split <;> omega
theorem gmin {i j : Int} (h : ∀ x, (x ≤ i ∧ x ≤ j ∧ (x = i ∨ x = j)) → Q (.int x) H) : Q (.int (if j < i then j else i)) H := by
  apply h; split <;> omega
theorem max_ite {x i j : Int} (h : x = if j > i then j else i) : i ≤ x ∧ j ≤ x ∧ (x = i ∨ x = j) := by split at h <;> omega
theorem min_ite {x i j : Int} (h : x = if j < i then j else i) : x ≤ i ∧ x ≤ j ∧ (x = i ∨ x = j) := by split at h <;> omega
theorem abs_ite {x i : Int} (h : x = if i < 0 then -i else i) : (0 ≤ i ∧ x = i) ∨ (i < 0 ∧ x = -i) := by split at h <;> omega
theorem eqi {a b : Int} (h : a = b) (q : Q (.int b) H) : Q (.int a) H := h ▸ q
theorem eqb {a b : Bool} (h : a = b) (q : Q (.bl b) H) : Q (.bl a) H := h ▸ q
theorem eqd {P : Prop} [Decidable P] (h : P) (q : Q (.bl true) H) : Q (.bl (decide P)) H := by rw [decide_eq_true h]; exact q
theorem eqnd {P : Prop} [Decidable P] (h : ¬ P) (q : Q (.bl true) H) : Q (.bl (!decide P)) H := by rw [decide_eq_false h]; exact q
theorem eqeqi {i j : Int} (h : i = j) (q : Q (.bl true) H) : Q (.bl (decide (V.int i = V.int j))) H := by rw [decide_eq_true (by rw [h])]; exact q
theorem eqnei {i j : Int} (h : i ≠ j) (q : Q (.bl true) H) : Q (.bl (!decide (V.int i = V.int j))) H := by
  rw [decide_eq_false (fun z => h (V.int.inj z))]; exact q
theorem ginteq {i j : Int} (h : ∀ n : Int, ((n = 1 ∧ i = j) ∨ (n = 0 ∧ i ≠ j)) → Q (.int n) H) : Q (.int (if decide (V.int i = V.int j) = true then 1 else 0)) H := by
  by_cases e : i = j
  · rw [if_pos (decide_eq_true (by rw [e]))]; exact h _ (.inl ⟨rfl, e⟩)
  · rw [if_neg (fun z => e (V.int.inj (of_decide_eq_true z)))]; exact h _ (.inr ⟨rfl, e⟩)
theorem gintd {P : Prop} [Decidable P] (h : ∀ n : Int, ((n = 1 ∧ P) ∨ (n = 0 ∧ ¬ P)) → Q (.int n) H) : Q (.int (if decide P = true then 1 else 0)) H := by
  by_cases e : P
  · rw [if_pos (decide_eq_true e)]; exact h _ (.inl ⟨rfl, e⟩)
  · rw [if_neg (fun z => e (of_decide_eq_true z))]; exact h _ (.inr ⟨rfl, e⟩)
theorem ifb {b : Bool} (h1 : b = true → A) (h2 : b = false → B) : if b = true then A else B := by
  cases b
  · exact iteF (h2 rfl)
  · exact iteT (h1 rfl)
theorem ifd {P : Prop} [Decidable P] (h1 : P → A) (h2 : ¬ P → B) : if decide P = true then A else B := by
  by_cases e : P
  · rw [if_pos (decide_eq_true e)]; exact h1 e
  · rw [if_neg (fun z => e (of_decide_eq_true z))]; exact h2 e
theorem ifnd {P : Prop} [Decidable P] (h1 : ¬ P → A) (h2 : P → B) : if (!decide P) = true then A else B := by
  by_cases e : P
  · rw [decide_eq_true e]; exact iteF (h2 e)
  · rw [decide_eq_false e]; exact iteT (h1 e)
theorem ifeqi {i j : Int} (h1 : i = j → A) (h2 : i ≠ j → B) : if decide (V.int i = V.int j) = true then A else B :=
  ifd (fun e => h1 (V.int.inj e)) (fun e => h2 (fun z => e (by rw [z])))
theorem ifnei {i j : Int} (h1 : i ≠ j → A) (h2 : i = j → B) : if (!decide (V.int i = V.int j)) = true then A else B :=
  ifnd (fun e => h1 (fun z => e (by rw [z]))) (fun e => h2 (V.int.inj e))
theorem ifeqs {i j : Str} (h1 : i = j → A) (h2 : i ≠ j → B) : if decide (V.str i = V.str j) = true then A else B :=
  ifd (fun e => h1 (V.str.inj e)) (fun e => h2 (fun z => e (by rw [z])))
theorem ifnes {i j : Str} (h1 : i ≠ j → A) (h2 : i = j → B) : if (!decide (V.str i = V.str j)) = true then A else B :=
  ifnd (fun e => h1 (fun z => e (by rw [z]))) (fun e => h2 (V.str.inj e))
theorem ifeqb {a b : Bool} (h1 : (a = true ↔ b = true) → A) (h2 : ¬ (a = true ↔ b = true) → B) : if decide (V.bl a = V.bl b) = true then A else B :=
  ifd (fun e => h1 (by rw [V.bl.inj e])) (fun e => h2 (fun z => e (by rw [Bool.eq_iff_iff.mpr z])))
theorem ifneb {a b : Bool} (h1 : ¬ (a = true ↔ b = true) → A) (h2 : (a = true ↔ b = true) → B) : if (!decide (V.bl a = V.bl b)) = true then A else B :=
  ifnd (fun e => h1 (fun z => e (by rw [Bool.eq_iff_iff.mpr z]))) (fun e => h2 (by rw [V.bl.inj e]))
/-! heaps -/
theorem at_new {p q : Addr} {u o : HO} (hp : H p = none) (h : H q = some o) : upd H p u q = some o := by rw [upd_ne (ne_of_none h hp)]; exact h
theorem at_mut {b q : Addr} {u o : HO} (hn : q ≠ b) (h : H q = some o) : upd H b u q = some o := by rw [upd_ne hn]; exact h
theorem same_new {p : Addr} {u : HO} (hp : H p = none) : Same H (upd H p u) := fun _ _ h => at_new hp h
theorem same_mut {b : Addr} {u : HO} (s : Same H H') (hb : H b = none) : Same H (upd H' b u) := fun q o h => by rw [upd_ne (ne_of_none h hb)]; exact s q o h
theorem ne_sym {a b : Addr} (h : a ≠ b) : b ≠ a := fun z => h z.symm
theorem seq {K : PySem.W.Frag} {a : Addr} {xs : List V} (e : Same H H') (h : SqL K H a xs) : SqL K H' a xs := e.seq h
theorem seqT {K : PySem.W.Frag} {a : Addr} {xs : List V} (e : Same H H') (h : SqT K H a xs) : SqT K H' a xs := by
  rcases h with (h | ⟨o, h⟩) | h
  · exact .inl (.inl (e _ _ h))
  · exact .inl (.inr ⟨o, e _ _ h⟩)
  · exact .inr h
end
/-! operators -/
section
variable {X : Cx}
/-- named answers -/
theorem op_mulN : OpR X (binaryOp .Mult) (fun x y H Q => ∃ i j, x = .int i ∧ y = .int j ∧ (CMul i j ∨ CMulX i j) ∧ ∀ z, z = i * j → Q (.int z) H) := by
  intro pins s σ H x y v u Q I rx ry q
  obtain ⟨i, j, rfl, rfl, hc | hc, q⟩ := q
  · exact op_mul pins s σ H _ _ v u Q I rx ry ⟨i, j, rfl, rfl, hc, q _ rfl⟩
  · exact op_mulX pins s σ H _ _ v u Q I rx ry ⟨i, j, rfl, rfl, hc, q _ rfl⟩
theorem op_divN : OpR X (binaryOp .FloorDiv) (fun x y H Q => ∃ i j, x = .int i ∧ y = .int j ∧ CDivW i j ∧ ∀ z, z = i / j → Q (.int z) H) := by
  intro pins s σ H x y v u Q I rx ry q
  obtain ⟨i, j, rfl, rfl, hc, q⟩ := q
  exact op_fdivW pins s σ H _ _ v u Q I rx ry ⟨i, j, rfl, rfl, hc, q _ rfl⟩
theorem op_divF : OpR X (binaryOp .FloorDiv) (fun x y H Q => ∃ i j, x = .int i ∧ y = .int j ∧ (j ≠ 0 ∧ j.natAbs.log2 < 9000) ∧ ∀ z, z = i.fdiv j → Q (.int z) H) := by
  intro pins s σ H x y v u Q I rx ry q
  obtain ⟨i, j, rfl, rfl, hc, q⟩ := q
  obtain ⟨t, rfl⟩ := rx
  obtain ⟨t', rfl⟩ := ry
  exact PyProof.Rows.floordiv_int hc.1 ⟨.int (i.fdiv j), H, I.tok _, ⟨_, rfl⟩, q _ rfl⟩ (.inl (PyProof.noPylong_of_log2 hc.2))
theorem op_shlN : OpR X (binaryOp .LShift) (fun x y H Q => ∃ i j, x = .int i ∧ y = .int j ∧ (CPow i j ∨ CShl i j) ∧ ∀ z, z = i * 2 ^ j.toNat → Q (.int z) H) := by
  intro pins s σ H x y v u Q I rx ry q
  obtain ⟨i, j, rfl, rfl, hc | hc, q⟩ := q
  · exact op_shl pins s σ H _ _ v u Q I rx ry ⟨i, j, rfl, rfl, hc, q _ rfl⟩
  · exact op_shlW pins s σ H _ _ v u Q I rx ry ⟨i, j, rfl, rfl, hc, q _ rfl⟩
theorem op_shrN : OpR X (binaryOp .RShift) (fun x y H Q => ∃ i j, x = .int i ∧ y = .int j ∧ 0 ≤ j ∧ ∀ z, z = i / 2 ^ j.toNat → Q (.int z) H) := by
  intro pins s σ H x y v u Q I rx ry q
  obtain ⟨i, j, rfl, rfl, hc, q⟩ := q
  exact op_shr pins s σ H _ _ v u Q I rx ry ⟨i, j, rfl, rfl, hc, q _ rfl⟩
theorem op_modN : OpR X (binaryOp .Mod) (fun x y H Q => ∃ i j, x = .int i ∧ y = .int j ∧ 0 < j ∧ ∀ z, z = i % j → 0 ≤ z → z < j → Q (.int z) H) := by
  intro pins s σ H x y v u Q I rx ry q
  obtain ⟨i, j, rfl, rfl, hc, q⟩ := q
  exact op_mod pins s σ H _ _ v u Q I rx ry ⟨i, j, rfl, rfl, hc, q _ rfl (Int.emod_nonneg _ (by omega)) (Int.emod_lt_of_pos _ hc)⟩
theorem op_shl1 : OpR X (binaryOp .LShift) (fun x y H Q => ∃ j, x = .int 1 ∧ y = .int j ∧ (0 ≤ j ∧ j ≤ 1000000) ∧ ∀ z, z = 2 ^ j.toNat → 0 < z → Q (.int z) H) := by
  intro pins s σ H x y v u Q I rx ry q
  obtain ⟨j, rfl, rfl, ⟨h0, h1⟩, q⟩ := q
  refine op_shl pins s σ H _ _ v u Q I rx ry ⟨1, j, rfl, rfl, ⟨h0, h1, by decide⟩, ?_⟩
  show Q (.int (1 * 2 ^ j.toNat)) H
  rw [Int.one_mul]
  exact q _ rfl (p2 _)
theorem op_mask : OpR X (binaryOp .BitAnd) (fun x y H Q => ∃ (i j : Int) (k : Nat), x = .int i ∧ y = .int j ∧ j = 2 ^ k - 1 ∧ ∀ r, r = i % 2 ^ k → 0 ≤ r → r < 2 ^ k → Q (.int r) H) := by
  intro pins s σ H x y v u Q I rx ry h
  obtain ⟨i, j, k, rfl, rfl, rfl, q⟩ := h
  refine op_andM pins s σ H _ _ v u Q I rx ry ⟨i, k, rfl, rfl, q _ rfl (Int.emod_nonneg _ ?_) (Int.emod_lt_of_pos _ (p2 k))⟩
  have := p2 k; omega
theorem op_bor : OpR X (binaryOp .BitOr) (fun x y H Q => ∃ (i j : Int), x = .int i ∧ y = .int j ∧ 0 ≤ i ∧ 0 ≤ j ∧ ∀ r, r = Builtin.bitOr i j → 0 ≤ r → Q (.int r) H) := by
  intro pins s σ H x y v u Q I rx ry h
  obtain ⟨i, j, rfl, rfl, h0, h1, q⟩ := h
  refine op_or pins s σ H _ _ v u Q I rx ry ⟨i, j, rfl, rfl, q _ rfl ?_⟩
  rw [bitOr_nn h0 h1]
  exact Int.natCast_nonneg _
theorem call_dm : CallR X (.builtin "divmod") (fun xs H Q => ∃ i j, xs = [.int i, .int j] ∧ CDivP i j ∧ ∀ q r p, q = i / j → r = i % j → 0 ≤ r → r < j → H p = none → Q (.ref p) (upd H p (.tup [.int q, .int r]))) := by
  intro pins s σ H xs us Q I r h
  obtain ⟨i, j, rfl, hc, q⟩ := h
  exact call_divmodW pins s σ H _ us Q I r ⟨i, j, rfl, hc, fun p hp => q _ _ p rfl rfl (Int.emod_nonneg _ (by have := hc.1; omega)) (Int.emod_lt_of_pos _ hc.1) hp⟩
theorem call_intb : CallR X (.type "int") (fun xs H Q => ∃ k, xs = [.bl k] ∧ ∀ n : Int, ((n = 1 ∧ k = true) ∨ (n = 0 ∧ k = false)) → Q (.int n) H) := by
  intro pins s σ H xs us Q I r h
  obtain ⟨k, rfl, q⟩ := h
  refine call_int1 pins s σ H _ us Q I r (.inr ⟨k, rfl, ?_⟩)
  cases k
  · exact q _ (.inr ⟨rfl, rfl⟩)
  · exact q _ (.inl ⟨rfl, rfl⟩)
/-- an int's value by a name -/
def tNmi (t : TE) : TE := fun σ H Q => t σ H fun v H1 => ∃ i, v = .int i ∧ ∀ x, x = i → Q (.int x) H1
theorem pe_nmi {e : Expr} {t : TE} (h : PE X e t) : PE X e (tNmi t) := ⟨fun pins s σ H Q I q => thn (h.run pins s σ H _ I q) fun _ _ z => by
  obtain ⟨v, H1, I1, r1, i, rfl, q1⟩ := z
  exact ⟨.int i, H1, I1, r1, q1 i rfl⟩⟩
/-- a reckoned constant -/
def tLit (n : Int) (t : TE) : TE := fun σ H Q => t σ H fun v H1 => v = .int n ∧ Q (.int n) H1
theorem pe_lit (n : Int) {e : Expr} {t : TE} (h : PE X e t) : PE X e (tLit n t) := ⟨fun pins s σ H Q I q => thn (h.run pins s σ H _ I q) fun _ _ z => by
  obtain ⟨v, H1, I1, r1, rfl, q1⟩ := z
  exact ⟨.int n, H1, I1, r1, q1⟩⟩
end
theorem pow2_mono {a b : Nat} (h : a ≤ b) : (2 : Int) ^ a ≤ 2 ^ b := by
  have e : (2 : Int) ^ b = 2 ^ a * 2 ^ (b - a) := by rw [← Int.pow_add, show a + (b - a) = b by omega]
  rw [e]
  have h1 := p2 a
  have h2 := p2 (b - a)
  calc (2 : Int) ^ a = 2 ^ a * 1 := by omega
    _ ≤ 2 ^ a * 2 ^ (b - a) := Int.mul_le_mul_of_nonneg_left (by omega) (by omega)
theorem pow2_pred {w : Int} (h : 1 ≤ w) : (2 : Int) ^ w.toNat = 2 * 2 ^ (w - 1).toNat := by
  have e : w.toNat = (w - 1).toNat + 1 := by omega
  rw [e, Int.pow_succ, Int.mul_comm]
theorem pow2_lt {a b : Int} (h0 : 0 ≤ a) (h : a < b) : (2 : Int) ^ a.toNat < 2 ^ b.toNat := by
  have h1 := pow2_mono (a := a.toNat) (b := (b - 1).toNat) (by omega)
  have h2 := pow2_pred (w := b) (by omega)
  have h3 := p2 (b - 1).toNat
  omega
theorem pow2_le32 {w : Int} (h : w ≤ 32) : (2 : Int) ^ w.toNat ≤ 4294967296 := pow2_mono (b := 32) (by omega)
theorem pow2_le64 {w : Int} (h : w ≤ 64) : (2 : Int) ^ w.toNat ≤ 18446744073709551616 := pow2_mono (b := 64) (by omega)
theorem divw64 {i j : Int} (h0 : 0 < j) (h : j ≤ 18446744073709551616) : CDivW i j := wide_div h0 (b := 65) (by omega) (by decide) (by decide)
/-! sizes -/
def Sz (n : Nat) (i : Int) : Prop := i.natAbs < 2 ^ n
theorem Sz.lit {n : Nat} {i : Int} (h : i.natAbs < 2 ^ n) : Sz n i := h
theorem Sz.mono {a b : Nat} {i : Int} (h : Sz a i) (hab : a ≤ b) : Sz b i := Nat.lt_of_lt_of_le h (Nat.pow_le_pow_right (by decide) hab)
theorem Sz.mul {a b : Nat} {i j : Int} (h : Sz a i) (h' : Sz b j) : Sz (a + b) (i * j) := wide_lt h h'
theorem Sz.le {a : Nat} {i j : Int} (h : Sz a i) (hl : j.natAbs ≤ i.natAbs) : Sz a j := Nat.lt_of_le_of_lt hl h
theorem Sz.add {a : Nat} {i j : Int} (h : Sz a i) (h' : Sz a j) : Sz (a + 1) (i + j) := by
  unfold Sz at *
  rw [Nat.pow_succ]
  have := Int.natAbs_add_le i j
  omega
theorem Sz.neg {a : Nat} {i : Int} (h : Sz a i) : Sz a (-i) := by unfold Sz at *; rw [Int.natAbs_neg]; exact h
theorem Sz.sub {a : Nat} {i j : Int} (h : Sz a i) (h' : Sz a j) : Sz (a + 1) (i - j) := by
  rw [Int.sub_eq_add_neg]; exact h.add h'.neg
theorem Sz.pow {k : Int} {n : Nat} (h : k ≤ n) : Sz (n + 1) (2 ^ k.toNat) := by
  unfold Sz
  rw [Int.natAbs_pow]
  exact Nat.pow_lt_pow_right (by decide) (by omega)
theorem Sz.shl {a n : Nat} {i k : Int} (h : Sz a i) (hk : k ≤ n) : Sz (a + (n + 1)) (i * 2 ^ k.toNat) := h.mul (Sz.pow hk)
theorem Sz.div {a : Nat} {i j : Int} (h : Sz a i) (hj : 0 < j) : Sz a (i / j) := by
  refine h.le ?_
  have h1 := Int.ediv_mul_add_emod i j
  have h2 := Int.emod_nonneg i (show j ≠ 0 by omega)
  have h3 := Int.emod_lt_of_pos i hj
  by_cases hi : i < 0
  · have h4 : i ≤ i / j := by
      refine (Int.le_ediv_iff_mul_le hj).mpr ?_
      have : i * 1 ≥ i * j := Int.mul_le_mul_of_nonpos_left (by omega) (by omega)
      omega
    have h5 : i / j < 0 := Int.ediv_neg_of_neg_of_pos hi hj
    omega
  · have h4 : i / j ≤ i := Int.ediv_le_self _ (by omega)
    have h5 : 0 ≤ i / j := Int.ediv_nonneg (by omega) (by omega)
    omega
theorem Sz.rng {n : Nat} {i j : Int} (h0 : 0 ≤ i) (h1 : i < j) (h : j.natAbs ≤ 2 ^ n) : Sz n i := by
  unfold Sz; omega
theorem Sz.md {n : Nat} {i j : Int} (h0 : 0 ≤ i) (h1 : i < j) (h : Sz n j) : Sz n i := by
  unfold Sz at *; omega
theorem Sz.abs {n : Nat} {x i : Int} (h : Sz n i) (hx : x = if i < 0 then -i else i) : Sz n x := by
  refine h.le ?_; split at hx <;> omega
theorem mul0 {i j : Int} (h : -(2 ^ 64) < i ∧ i < 2 ^ 64) : CMul i j ∨ CMulX i j := .inl (.inl h)
theorem mul1 {i j : Int} (h : -(2 ^ 64) < j ∧ j < 2 ^ 64) : CMul i j ∨ CMulX i j := .inl (.inr h)
theorem shl0 {i j : Int} (h : 0 ≤ j) (h' : j ≤ 1000000) (h2 : i.natAbs < 2 ^ 64) : CPow i j ∨ CShl i j := .inl ⟨h, h', h2⟩
theorem szW {i : Int} (h : -(2 ^ 200) < i ∧ i < 2 ^ 200) : Sz 200 i := by unfold Sz; omega
theorem mulW {i j : Int} (h : -(2 ^ 200) < i ∧ i < 2 ^ 200) (h' : -(2 ^ 200) < j ∧ j < 2 ^ 200) : CMul i j ∨ CMulX i j := .inr (mulx_ok (szW h) (szW h') (by decide))
theorem divW {i j : Int} (h : 0 < j) (h' : j < 2 ^ 200) : CDivW i j := wide_div h (b := 200) (szW ⟨by omega, h'⟩) (by decide) (by decide)
theorem shlW {i j : Int} (h : 0 ≤ j) (h' : j ≤ 1000) (h2 : -(2 ^ 200) < i ∧ i < 2 ^ 200) : CPow i j ∨ CShl i j := by
  obtain ⟨n, rfl⟩ := Int.eq_ofNat_of_zero_le h
  exact .inr (shl_ok (n := 200) (szW h2) (by omega))
theorem mulx {a b : Nat} {i j : Int} (h : Sz a i) (h' : Sz b j) (hl : a + b ≤ 134217728) : CMulX i j := mulx_ok h h' hl
theorem divz {b : Nat} {i j : Int} (h : 0 < j) (hb : Sz b j) (h0 : 0 < b) (h9 : b ≤ 9000) : CDivW i j := wide_div h hb h0 h9
theorem divzF {b : Nat} {j : Int} (h : j ≠ 0) (hb : Sz b j) (h0 : 0 < b) (h9 : b ≤ 9000) : j ≠ 0 ∧ j.natAbs.log2 < 9000 := ⟨h, Nat.lt_of_lt_of_le (PySem.Flt.log2_lt_of h0 hb) h9⟩
theorem eqdd {P P' : Prop} [Decidable P] [Decidable P'] {Q : VK} {H : Hp} (h : P ↔ P') (q : Q (.bl (decide P')) H) : Q (.bl (decide P)) H := by rw [decide_eq_decide.mpr h]; exact q
theorem eqeqb {i j : Bool} {Q : VK} {H : Hp} (h : i = j) (q : Q (.bl true) H) : Q (.bl (decide (V.bl i = V.bl j))) H := by rw [decide_eq_true (by rw [h])]; exact q
theorem ix_tupK {X : Cx} {K : PySem.W.Frag} (h : X.K = K) : IxR X (rIxT K) := h ▸ ix_tup
theorem ix_listK {X : Cx} {K : PySem.W.Frag} (h : X.K = K) : IxR X (rIxL K) := h ▸ ix_list
theorem dmz {a : Nat} {i j : Int} (h : 0 < j) (hz : Sz a i) (ha : a ≤ 4000) : CDivP i j := divp_ok h (by have := PyProof.Rows.intBits_le hz; omega)
theorem dms {i j : Int} (h : 0 < j) (h0 : -(2 ^ 64) < i) (h1 : i < 2 ^ 64) : CDivP i j := dmz (a := 64) h (by unfold Sz; omega) (by decide)
theorem shlz {a n : Nat} {i j : Int} (h : Sz a i) (h0 : 0 ≤ j) (hj : j ≤ n) (hn : a + n ≤ 134217728) : CShl i j := by
  obtain ⟨k, rfl⟩ : ∃ k : Nat, j = k := ⟨j.toNat, by omega⟩
  exact shl_ok h (by omega)
/-- all but the object at b is as it was -/
def Fm (b : Addr) (H H' : Hp) : Prop := ∀ q o, q ≠ b → H q = some o → H' q = some o
theorem Fm.refl {b : Addr} {H : Hp} : Fm b H H := fun _ _ _ h => h
theorem Fm.same {b : Addr} {H H1 H2 : Hp} (a : Fm b H H1) (s : Same H1 H2) : Fm b H H2 := fun q o n h => s q o (a q o n h)
theorem Fm.mut {b : Addr} {H H1 : Hp} {u : HO} (a : Fm b H H1) : Fm b H (upd H1 b u) := fun q o n h => by rw [upd_ne n]; exact a q o n h
theorem Fm.mutF {b c : Addr} {H H1 : Hp} {u : HO} (a : Fm b H H1) (hc : H c = none) : Fm b H (upd H1 c u) := fun q o n h => by rw [upd_ne (ne_of_none h hc)]; exact a q o n h
theorem Fm.trans {b : Addr} {H H1 H2 : Hp} (a : Fm b H H1) (s : Fm b H1 H2) : Fm b H H2 := fun q o n h => s q o n (a q o n h)
theorem Fm.frameF {b c : Addr} {H H1 H2 : Hp} (a : Fm b H H1) (s : Fm c H1 H2) (hc : H c = none) : Fm b H H2 := fun q o n h => s q o (ne_of_none h hc) (a q o n h)
theorem Fm.free {b : Addr} {H H' : Hp} (a : Fm b H H') {o : HO} {l : Addr} (hb : H' b = some o) (h : H' l = none) : H l = none := by
  cases e : H l with
  | none => rfl
  | some u =>
    have n : l ≠ b := fun z => by rw [z, hb] at h; cases h
    rw [a l u n e] at h; cases h
theorem same_frame {c : Addr} {H H1 H2 : Hp} (s : Same H H1) (f : Fm c H1 H2) (hc : H c = none) : Same H H2 := fun q o h => f q o (ne_of_none h hc) (s q o h)
/-! lists of ints -/
theorem szl {n : Nat} (h : n < 1000000) : n < sizeLine := Nat.lt_of_lt_of_le h (by decide)
theorem szle {n : Nat} (h : n ≤ 1000000) : n ≤ sizeLine := Nat.le_trans h (by decide)
section
variable {X : Cx} {K : PySem.W.Frag} {H H' : Hp} {Q : VK} {a : Addr}
theorem ap_ints {xs : List Int} {e : Int} (h : H a = some (.lst (xs.map V.int ++ [.int e]))) : H a = some (.lst ((xs ++ [e]).map V.int)) := by
  rw [List.map_append]; exact h
theorem set_ints {xs : List Int} {e : Int} {j : Nat} (h : H a = some (.lst ((xs.map V.int).set j (.int e)))) : H a = some (.lst ((xs.set j e).map V.int)) := by
  rw [List.map_set]; exact h
theorem dpAll_ints : ∀ xs : List Int, DpAll K H (xs.map V.int) (xs.map PyData.int)
  | [] => .nil
  | x :: xs => .cons (.int x) (dpAll_ints xs)
theorem dp_ints {xs : List Int} (h : SqL K H a (xs.map V.int)) : Dp K H (.ref a) (.list (xs.map PyData.int)) := .lst h (dpAll_ints xs)
theorem layAll_ints : ∀ xs : List Int, PyData.canLayAll0 (xs.map PyData.int) = true
  | [] => rfl
  | x :: xs => by
    rw [List.map_cons, PyData.canLayAll0, layAll_ints xs]
    rfl
theorem depAll_ints : ∀ xs : List Int, PyData.depthAll (xs.map PyData.int) = 0
  | [] => rfl
  | x :: xs => by
    rw [List.map_cons, PyData.depthAll, depAll_ints xs]
    rfl
theorem shaped_ints (xs : List Int) : SeqAt.shaped (.list (xs.map PyData.int)) = true := by
  unfold SeqAt.shaped
  rw [PyData.canLay0, PyData.depth, layAll_ints, depAll_ints]
  rfl
theorem eqvAll_ints : ∀ xs ys : List Int, PyData.eqvAll (xs.map PyData.int) (ys.map PyData.int) = decide (xs = ys)
  | [], [] => rfl
  | [], _ :: _ => rfl
  | _ :: _, [] => rfl
  | x :: xs, y :: ys => by
    rw [List.map_cons, List.map_cons, PyData.eqvAll, PyData.eqv, eqvAll_ints xs ys]
    by_cases h : x = y
    · by_cases h2 : xs = ys <;> simp [h, h2]
    · simp [h]
theorem eqv_ints (xs ys : List Int) : PyData.eqv (.list (xs.map PyData.int)) (.list (ys.map PyData.int)) = decide (xs = ys) := by
  rw [PyData.eqv]; exact eqvAll_ints xs ys
theorem op_eqI (hu : X.A.units + 64 < cLine) : OpR X (compareOp .Eq) (fun x y H Q => ∃ (a b : Addr) (xs ys : List Int), x = .ref a ∧ y = .ref b ∧ SqL X.K H a (xs.map V.int) ∧ SqL X.K H b (ys.map V.int) ∧ Q (.bl (decide (xs = ys))) H) := by
  intro pins s σ H x y v u Q I rx ry h
  obtain ⟨a, b, xs, ys, rfl, rfl, h1, h2, q⟩ := h
  refine op_eqD hu pins s σ H _ _ v u Q I rx ry ⟨_, _, dp_ints h1, dp_ints h2, shaped_ints _, shaped_ints _, ?_⟩
  rw [eqv_ints]; exact q
theorem op_neI (hu : X.A.units + 64 < cLine) : OpR X (compareOp .NotEq) (fun x y H Q => ∃ (a b : Addr) (xs ys : List Int), x = .ref a ∧ y = .ref b ∧ SqL X.K H a (xs.map V.int) ∧ SqL X.K H b (ys.map V.int) ∧ Q (.bl (!decide (xs = ys))) H) := by
  intro pins s σ H x y v u Q I rx ry h
  obtain ⟨a, b, xs, ys, rfl, rfl, h1, h2, q⟩ := h
  refine op_neD hu pins s σ H _ _ v u Q I rx ry ⟨_, _, dp_ints h1, dp_ints h2, shaped_ints _, shaped_ints _, ?_⟩
  rw [eqv_ints]; exact q
theorem dpT_ints {xs : List Int} (h : SqT K H a (xs.map V.int)) : Dp K H (.ref a) (.tuple (xs.map PyData.int)) := .tup h (dpAll_ints xs)
theorem shapedT_ints (xs : List Int) : SeqAt.shaped (.tuple (xs.map PyData.int)) = true := by
  unfold SeqAt.shaped
  rw [PyData.canLay0, PyData.depth, layAll_ints, depAll_ints]
  rfl
theorem eqvT_ints (xs ys : List Int) : PyData.eqv (.tuple (xs.map PyData.int)) (.tuple (ys.map PyData.int)) = decide (xs = ys) := by
  rw [PyData.eqv]; exact eqvAll_ints xs ys
theorem op_eqT (hu : X.A.units + 64 < cLine) : OpR X (compareOp .Eq) (fun x y H Q => ∃ (a b : Addr) (xs ys : List Int), x = .ref a ∧ y = .ref b ∧ SqT X.K H a (xs.map V.int) ∧ SqT X.K H b (ys.map V.int) ∧ Q (.bl (decide (xs = ys))) H) := by
  intro pins s σ H x y v u Q I rx ry h
  obtain ⟨a, b, xs, ys, rfl, rfl, h1, h2, q⟩ := h
  refine op_eqD hu pins s σ H _ _ v u Q I rx ry ⟨_, _, dpT_ints h1, dpT_ints h2, shapedT_ints _, shapedT_ints _, ?_⟩
  rw [eqvT_ints]; exact q
theorem op_neT (hu : X.A.units + 64 < cLine) : OpR X (compareOp .NotEq) (fun x y H Q => ∃ (a b : Addr) (xs ys : List Int), x = .ref a ∧ y = .ref b ∧ SqT X.K H a (xs.map V.int) ∧ SqT X.K H b (ys.map V.int) ∧ Q (.bl (!decide (xs = ys))) H) := by
  intro pins s σ H x y v u Q I rx ry h
  obtain ⟨a, b, xs, ys, rfl, rfl, h1, h2, q⟩ := h
  refine op_neD hu pins s σ H _ _ v u Q I rx ry ⟨_, _, dpT_ints h1, dpT_ints h2, shapedT_ints _, shapedT_ints _, ?_⟩
  rw [eqvT_ints]; exact q
theorem flat_ints (xs : List Int) : (xs.map V.int).all flatV = true := by
  rw [List.all_map, List.all_eq_true]; intro x _; rfl
theorem inV_ints (i : Int) (xs : List Int) : inV (.int i) (xs.map V.int) = decide (i ∈ xs) := by
  unfold inV
  rw [Bool.eq_iff_iff, List.any_map, List.any_eq_true, decide_eq_true_eq]
  constructor
  · rintro ⟨y, hy, e⟩
    have : (y == i) = true := e
    rw [← beq_iff_eq.mp this]; exact hy
  · exact fun h => ⟨i, h, beq_self_eq_true i⟩
theorem op_inI : OpR X (compareOp .In) (fun x y H Q => ∃ (i : Int) (p : Addr) (xs : List Int), x = .int i ∧ y = .ref p ∧ SqL X.K H p (xs.map V.int) ∧ Q (.bl (decide (i ∈ xs))) H) := by
  intro pins s σ H x y v u Q I rx ry h
  obtain ⟨i, p, xs, rfl, rfl, hs, q⟩ := h
  refine op_in_seq pins s σ H _ _ v u Q I rx ry ⟨_, _, rfl, .inl hs, rfl, flat_ints xs, ?_⟩
  rw [if_neg Bool.false_ne_true, inV_ints]
  exact q
theorem op_notInI : OpR X (compareOp .NotIn) (fun x y H Q => ∃ (i : Int) (p : Addr) (xs : List Int), x = .int i ∧ y = .ref p ∧ SqL X.K H p (xs.map V.int) ∧ Q (.bl (!decide (i ∈ xs))) H) := by
  intro pins s σ H x y v u Q I rx ry h
  obtain ⟨i, p, xs, rfl, rfl, hs, q⟩ := h
  refine op_notIn_seq pins s σ H _ _ v u Q I rx ry ⟨_, _, rfl, .inl hs, rfl, flat_ints xs, ?_⟩
  rw [if_pos rfl, inV_ints]
  exact q
theorem ixN_nat {n j : Nat} (h : j < n) : ixN n (j : Int) = some j := by
  unfold ixN
  rw [if_pos (by omega), if_pos (by omega)]; simp
theorem ixlast {xs : List Int} (h : SqL K H a (xs.map V.int)) (h0 : 0 < xs.length) (q : ∀ y, xs.getLast? = some y → Q (.int y) H) : rIxL K (.ref a) (.int (-1)) H Q := by
  obtain ⟨y, hy⟩ : ∃ y, xs.getLast? = some y := by
    cases e : xs.getLast? with
    | none => rw [List.getLast?_eq_none_iff] at e; subst e; simp at h0
    | some y => exact ⟨y, rfl⟩
  refine ⟨a, _, _, .int y, rfl, rfl, h, ?_, q y hy⟩
  obtain ⟨ys, rfl⟩ := List.getLast?_eq_some_iff.mp hy
  rw [List.map_append]
  exact atI_last _ _
end
/-! items -/
section
variable {K : PySem.W.Frag} {H : Hp} {Q : VK} {a : Addr}
theorem ixi {xs : List Int} {i : Int} (h : SqL K H a (xs.map V.int)) (h0 : 0 ≤ i) (h1 : i < xs.length) (q : ∀ y, xs[i.toNat]? = some y → Q (.int y) H) : rIxL K (.ref a) (.int i) H Q := by
  obtain ⟨n, rfl⟩ : ∃ n : Nat, i = n := ⟨i.toNat, by omega⟩
  have hl : n < xs.length := by omega
  refine ⟨a, _, _, .int (xs[n]'hl), rfl, rfl, h, atI_nat ?_, q _ (List.getElem?_eq_getElem hl)⟩
  rw [List.getElem?_map, List.getElem?_eq_getElem hl]
  all_goals rfl
theorem inV_int {y : Int} {xs : List Int} (h : y ∈ xs) : (if false = true then !(inV (.int y) (xs.map V.int)) else inV (.int y) (xs.map V.int)) = true := by
  rw [if_neg Bool.false_ne_true]
  unfold inV
  rw [List.any_map, List.any_eq_true]
  exact ⟨y, h, by simp [eqV]⟩
theorem ixn {xs : List Int} {i : Int} (h : SqL K H a (xs.map V.int)) (h0 : 0 ≤ i) (h1 : i < xs.length) (q : ∀ y, xs[i.toNat]? = some y → Q (.int y) H) : rIxL K (.ref a) (.int i) H Q := ixi h h0 h1 q
theorem ixi4 {x0 x1 x2 x3 : Int} {i : Int} (h : SqL K H a [.int x0, .int x1, .int x2, .int x3]) (hi : 0 ≤ i ∧ i < 4) (q : ∀ y, ((i = 0 ∧ y = x0) ∨ (i = 1 ∧ y = x1) ∨ (i = 2 ∧ y = x2) ∨ (i = 3 ∧ y = x3)) → Q (.int y) H) : rIxL K (.ref a) (.int i) H Q := by
  refine ixi (xs := [x0, x1, x2, x3]) h hi.1 hi.2 fun y hy => q y ?_
  have : i = 0 ∨ i = 1 ∨ i = 2 ∨ i = 3 := by omega
  rcases this with rfl | rfl | rfl | rfl <;> simp at hy <;> omega

theorem gturn {n i : Nat} {σ : L2.St} {R : L2.St → Hp → Prop} (h : ∀ x : Int, x = (i : Int) → gName n (.int x) σ H R) : gName n (.int (0 + (i : Int))) σ H R := h _ (by omega)
theorem ints_get {xs : List Int} {i : Nat} {v : V} (h : (xs.map V.int)[i]? = some v) : ∃ n, v = .int n ∧ xs[i]? = some n := by
  rw [List.getElem?_map] at h
  cases e : xs[i]? with
  | none => rw [e] at h; cases h
  | some n => rw [e] at h; exact ⟨n, (Option.some.inj h).symm, rfl⟩
/-- the ints a .. b - 1 -/
def rgI (a b : Int) : List Int := (List.range (b - a).toNat).map fun i => a + (i : Nat)
theorem rg_at {a : Addr} {x y : Int} : upd H a (.lst (rgV x y)) a = some (.lst ((rgI x y).map V.int)) := by
  rw [upd_same]
  unfold rgV rgI
  rw [List.map_map]
  rfl
theorem rgI_mem {n y : Int} (h : y ∈ rgI 0 n) : 0 ≤ y ∧ y < n := by
  obtain ⟨j, hj, rfl⟩ := List.mem_map.mp h
  have := List.mem_range.mp hj
  omega
theorem cat_at {a : Addr} {xs ys : List Int} : upd H a (.lst (xs.map V.int ++ ys.map V.int)) a = some (.lst ((xs ++ ys).map V.int)) := by
  rw [upd_same, List.map_append]
theorem szc {xs ys : List Int} {n : Nat} (h : xs.length + ys.length ≤ n) (hn : n ≤ sizeLine) : (xs.map V.int).length + (ys.map V.int).length ≤ sizeLine := by
  rw [List.length_map, List.length_map]; omega
/-! an if whose two ways meet again in one state -/
theorem join {tc : TT} {t1 t2 u : TS} {D : Ends} {σ : L2.St} {H : Hp} (Pv : L2.St → Hp → Prop) (h1 : ∀ N : L2.St → Hp → Prop, (∀ σ2 H2, Pv σ2 H2 → N σ2 H2) → tIfS tc t1 t2 { D with nx := N } σ H) (h2 : ∀ σ2 H2, Pv σ2 H2 → u D σ2 H2) : tSeq (tIfS tc t1 t2) u D σ H := h1 _ h2
theorem setc {i : Nat} {te : TE} {u : TS} {D : Ends} {σ : L2.St} {H : Hp} (v : V) (h : u D (σ.set i (some v)) H) (e : ∀ Q : VK, Q v H → te σ H Q := by exact fun _ z => z) : tSeq (tAsg te (gName i)) u D σ H := e _ h
theorem gnm {i : Nat} {v : V} {σ : L2.St} {H : Hp} {N bk ct : L2.St → Hp → Prop} {rt : VK} (h : N (σ.set i (some v)) H) : gName i v σ H (Ends.nx ⟨N, rt, bk, ct⟩) := h
theorem joinL {tc : TT} {t1 t2 : TS} {D : Ends} {σ : L2.St} {H : Hp} (Pv : L2.St → Hp → Prop) (h1 : ∀ N : L2.St → Hp → Prop, (∀ σ2 H2, Pv σ2 H2 → N σ2 H2) → tIfS tc t1 t2 { D with nx := N } σ H) (h2 : ∀ σ2 H2, Pv σ2 H2 → D.nx σ2 H2) : tIfS tc t1 t2 D σ H := h1 _ h2
/-! a for over a written list, turn by turn -/
def unr (K : PySem.W.Frag) (a : Addr) (xs : List V) (g : TG) (tb : TS) (D : Ends) : List V → L2.St → Hp → Prop
  | [], σ, H => SqL K H a xs ∧ D.nx σ H
  | x :: r, σ, H => SqL K H a xs ∧ g x σ H fun σ2 H2 => tb { D with nx := unr K a xs g tb D r, ct := unr K a xs g tb D r, bk := D.nx } σ2 H2
theorem un_start {xs : List V} {g : TG} {tb : TS} {D : Ends} {σ : L2.St} (h : unr K a xs g tb D xs σ H) :
    ∃ W : Nat → Nat → L2.St → Hp → Prop, (∃ m, W 0 m σ H) ∧ ∀ i m σ H, W i m σ H →
      ((Itl K a).stop i H ∧ D.nx σ H) ∨ ((Itl K a).go i H ∧ ∃ N : L2.St → Hp → Prop, (∀ σ' H', N σ' H' → ∃ m', m' < m ∧ W (i + 1) m' σ' H') ∧ ∀ x H', (Itl K a).yld i H x H' → g x σ H' fun σ2 H2 => tb { D with nx := N, ct := N, bk := D.nx } σ2 H2) := by
  refine ⟨fun i m σ H => m = xs.length - i ∧ i ≤ xs.length ∧ unr K a xs g tb D (xs.drop i) σ H, ⟨xs.length, by simp, Nat.zero_le _, h⟩, ?_⟩
  rintro i m σ H ⟨rfl, hi, p⟩
  by_cases hlt : i < xs.length
  · rw [List.drop_eq_getElem_cons hlt] at p
    obtain ⟨q, p⟩ := p
    refine .inr ⟨⟨xs, xs[i], q, by simp [hlt]⟩, unr K a xs g tb D (xs.drop (i + 1)), fun σ' H' p' => ⟨xs.length - (i + 1), by omega, rfl, hlt, p'⟩, fun x H' y => ?_⟩
    obtain ⟨e, y⟩ := y
    subst e
    have e2 := y xs q
    rw [List.getElem?_eq_getElem hlt] at e2
    cases e2
    exact p
  · have e : i = xs.length := by omega
    subst e
    rw [List.drop_length] at p
    obtain ⟨q, p⟩ := p
    exact .inl ⟨⟨xs, q, Nat.le_refl _⟩, p⟩
end
/-- a def that stands behind the top -/
structure Dk (K : PySem.W.Frag) (mg : Str → Option Value) (x qual : Str) (st : Stmt) (ps : List Str) : Type where
  f : Addr
  fd : FuncData
  F : Fun K x qual st f fd
  b : Binds K fd ps []
  m : mg x = some (.ref f)
end Ow

namespace Ow
open PySem PySem.Spec PyProof.Rows L2
/-! ### lists of tuples of ints -/
def g2 (r : Int × Int) : List Int := [r.1, r.2]
def g3 (r : Int × Int × Int) : List Int := [r.1, r.2.1, r.2.2]
def g4 (r : Int × Int × Int × Int) : List Int := [r.1, r.2.1, r.2.2.1, r.2.2.2]
def g5 (r : Int × Int × Int × Int × Int) : List Int := [r.1, r.2.1, r.2.2.1, r.2.2.2.1, r.2.2.2.2]
def g6 (r : Int × Int × Int × Int × Int × Int) : List Int := [r.1, r.2.1, r.2.2.1, r.2.2.2.1, r.2.2.2.2.1, r.2.2.2.2.2]
def g7 (r : Int × Int × Int × Int × Int × Int × Int) : List Int := [r.1, r.2.1, r.2.2.1, r.2.2.2.1, r.2.2.2.2.1, r.2.2.2.2.2.1, r.2.2.2.2.2.2]
abbrev Rw2 := List (Int × Int)
abbrev Rw3 := List (Int × Int × Int)
abbrev Rw4 := List (Int × Int × Int × Int)
abbrev Rw7 := List (Int × Int × Int × Int × Int × Int × Int)
inductive Rws {α : Type} (g : α → List Int) (H : Hp) : List V → List α → Prop
  | nil : Rws g H [] []
  | cons {p : Addr} {r : α} {vs : List V} {rs : List α} : H p = some (.tup ((g r).map V.int)) → Rws g H vs rs → Rws g H (.ref p :: vs) (r :: rs)
section
variable {α : Type} {g : α → List Int} {H H' : Hp} {vs : List V} {rs : List α}
theorem Rws.imp (h : ∀ p xs, H p = some (.tup xs) → H' p = some (.tup xs)) (R : Rws g H vs rs) : Rws g H' vs rs := by
  induction R with
  | nil => exact .nil
  | cons a _ ih => exact .cons (h _ _ a) ih
theorem Rws.same (s : Same H H') (R : Rws g H vs rs) : Rws g H' vs rs := R.imp fun _ _ e => s _ _ e
theorem Rws.new {p : Addr} {u : HO} (hp : H p = none) (R : Rws g H vs rs) : Rws g (upd H p u) vs rs := R.imp fun _ _ e => at_new hp e
theorem ne_tl {p b : Addr} {xs ys : List V} (h : H p = some (.tup xs)) (hb : H b = some (.lst ys)) : p ≠ b := fun e => by rw [e, hb] at h; cases h
theorem Rws.mut {b : Addr} {u : HO} {ys : List V} (hb : H b = some (.lst ys)) (R : Rws g H vs rs) : Rws g (upd H b u) vs rs := R.imp fun _ _ e => at_mut (ne_tl e hb) e
theorem Rws.fm {b : Addr} {ys : List V} (f : Fm b H H') (hb : H b = some (.lst ys)) (R : Rws g H vs rs) : Rws g H' vs rs := R.imp fun _ _ e => f _ _ (ne_tl e hb) e
theorem at_mutT {b p : Addr} {u : HO} {xs ys : List V} (hb : H b = some (.lst ys)) (h : H p = some (.tup xs)) : upd H b u p = some (.tup xs) := at_mut (ne_tl h hb) h
theorem at_fmT {b p : Addr} {xs ys : List V} (f : Fm b H H') (hb : H b = some (.lst ys)) (h : H p = some (.tup xs)) : H' p = some (.tup xs) := f _ _ (ne_tl h hb) h
theorem at_mutL {b p : Addr} {u : HO} {xs ys : List V} (hb : H b = some (.tup ys)) (h : H p = some (.lst xs)) : upd H b u p = some (.lst xs) := at_mut (fun e => ne_tl hb h e.symm) h
theorem Rws.len (R : Rws g H vs rs) : vs.length = rs.length := by
  induction R with
  | nil => rfl
  | cons _ _ ih => rw [List.length_cons, List.length_cons, ih]
theorem Rws.app {ws : List V} {ts : List α} (R : Rws g H vs rs) (S : Rws g H ws ts) : Rws g H (vs ++ ws) (rs ++ ts) := by
  induction R with
  | nil => exact S
  | cons a _ ih => exact .cons a ih
theorem Rws.snoc {p : Addr} {r : α} (R : Rws g H vs rs) (h : H p = some (.tup ((g r).map V.int))) : Rws g H (vs ++ [.ref p]) (rs ++ [r]) := R.app (.cons h .nil)
theorem Rws.take (R : Rws g H vs rs) (n : Nat) : Rws g H (vs.take n) (rs.take n) := by
  induction R generalizing n with
  | nil => rw [List.take_nil, List.take_nil]; exact .nil
  | cons a _ ih => cases n with
    | zero => exact .nil
    | succ n => exact .cons a (ih n)
theorem Rws.drop (R : Rws g H vs rs) (n : Nat) : Rws g H (vs.drop n) (rs.drop n) := by
  induction R generalizing n with
  | nil => rw [List.drop_nil, List.drop_nil]; exact .nil
  | cons a b ih => cases n with
    | zero => exact .cons a b
    | succ n => exact ih n
theorem Rws.dropLast (R : Rws g H vs rs) : Rws g H vs.dropLast rs.dropLast := by
  rw [List.dropLast_eq_take, List.dropLast_eq_take, R.len]; exact R.take _
theorem Rws.rev (R : Rws g H vs rs) : Rws g H vs.reverse rs.reverse := by
  induction R with
  | nil => exact .nil
  | cons a _ ih => rw [List.reverse_cons, List.reverse_cons]; exact ih.snoc a
theorem Rws.get {i : Nat} {v : V} (R : Rws g H vs rs) (h : vs[i]? = some v) : ∃ p r, v = .ref p ∧ H p = some (.tup ((g r).map V.int)) ∧ rs[i]? = some r := by
  induction R generalizing i with
  | nil => cases h
  | cons a _ ih => cases i with
    | zero => cases h; exact ⟨_, _, rfl, a, rfl⟩
    | succ n => exact ih h
theorem Rws.at {i : Nat} (R : Rws g H vs rs) (h : i < rs.length) : ∃ p r, vs[i]? = some (.ref p) ∧ H p = some (.tup ((g r).map V.int)) ∧ rs[i]? = some r := by
  have hl := R.len
  obtain ⟨p, r, e, hp, hr⟩ := R.get (List.getElem?_eq_getElem (by omega : i < vs.length))
  exact ⟨p, r, by rw [List.getElem?_eq_getElem (by omega : i < vs.length), e], hp, hr⟩
def rowD (g : α → List Int) (r : α) : PyData := .tuple ((g r).map PyData.int)
theorem Rws.dps {K : PySem.W.Frag} (R : Rws g H vs rs) : DpAll K H vs (rs.map (rowD g)) := by
  induction R with
  | nil => exact .nil
  | cons a _ ih => exact .cons (dpT_ints (SqT.of a)) ih
theorem layAll_rows (g : α → List Int) : ∀ rs : List α, PyData.canLayAll0 (rs.map (rowD g)) = true
  | [] => rfl
  | r :: rs => by
    rw [List.map_cons, PyData.canLayAll0, layAll_rows g rs, rowD, PyData.canLay0, layAll_ints]
    rfl
theorem depAll_rows (g : α → List Int) : ∀ rs : List α, PyData.depthAll (rs.map (rowD g)) ≤ 1
  | [] => Nat.zero_le _
  | r :: rs => by
    have := depAll_rows g rs
    rw [List.map_cons, PyData.depthAll, rowD, PyData.depth, depAll_ints]
    omega
theorem shaped_rows (g : α → List Int) (rs : List α) : SeqAt.shaped (.list (rs.map (rowD g))) = true := by
  unfold SeqAt.shaped
  rw [PyData.canLay0, PyData.depth, layAll_rows]
  have := depAll_rows g rs
  simp only [Bool.true_and, decide_eq_true_eq]
  omega
theorem eqvAll_rows (g : α → List Int) : ∀ xs ys : List α, PyData.eqvAll (xs.map (rowD g)) (ys.map (rowD g)) = decide (xs.map g = ys.map g)
  | [], [] => rfl
  | [], _ :: _ => rfl
  | _ :: _, [] => rfl
  | x :: xs, y :: ys => by
    rw [List.map_cons, List.map_cons, PyData.eqvAll, rowD, rowD, eqvT_ints, eqvAll_rows g xs ys, List.map_cons, List.map_cons]
    by_cases h : g x = g y
    · by_cases h2 : xs.map g = ys.map g <;> simp [h, h2]
    · simp [h]
end
theorem op_eqR {X : Cx} (hu : X.A.units + 64 < cLine) {α : Type} (g : α → List Int) : OpR X (compareOp .Eq) (fun x y H Q => ∃ (a b : Addr) (vs ws : List V) (xs ys : List α), x = .ref a ∧ y = .ref b ∧ SqL X.K H a vs ∧ SqL X.K H b ws ∧ Rws g H vs xs ∧ Rws g H ws ys ∧ Q (.bl (decide (xs.map g = ys.map g))) H) := by
  intro pins s σ H x y v u Q I rx ry h
  obtain ⟨a, b, vs, ws, xs, ys, rfl, rfl, h1, h2, r1, r2, q⟩ := h
  refine op_eqD hu pins s σ H _ _ v u Q I rx ry ⟨_, _, .lst h1 r1.dps, .lst h2 r2.dps, shaped_rows _ _, shaped_rows _ _, ?_⟩
  rw [PyData.eqv, eqvAll_rows]; exact q
theorem op_neR {X : Cx} (hu : X.A.units + 64 < cLine) {α : Type} (g : α → List Int) : OpR X (compareOp .NotEq) (fun x y H Q => ∃ (a b : Addr) (vs ws : List V) (xs ys : List α), x = .ref a ∧ y = .ref b ∧ SqL X.K H a vs ∧ SqL X.K H b ws ∧ Rws g H vs xs ∧ Rws g H ws ys ∧ Q (.bl (!decide (xs.map g = ys.map g))) H) := by
  intro pins s σ H x y v u Q I rx ry h
  obtain ⟨a, b, vs, ws, xs, ys, rfl, rfl, h1, h2, r1, r2, q⟩ := h
  refine op_neD hu pins s σ H _ _ v u Q I rx ry ⟨_, _, .lst h1 r1.dps, .lst h2 r2.dps, shaped_rows _ _, shaped_rows _ _, ?_⟩
  rw [PyData.eqv, eqvAll_rows]; exact q
section
variable {K : PySem.W.Frag} {H : Hp} {Q : VK} {a : Addr} {α : Type} {g : α → List Int} {vs : List V} {rs : List α}
theorem ixrow {i : Int} (h : SqL K H a vs) (R : Rws g H vs rs) (h0 : 0 ≤ i) (h1 : i < rs.length) (q : ∀ p r, rs[i.toNat]? = some r → H p = some (.tup ((g r).map V.int)) → Q (.ref p) H) : rIxL K (.ref a) (.int i) H Q := by
  obtain ⟨n, rfl⟩ : ∃ n : Nat, i = n := ⟨i.toNat, by omega⟩
  obtain ⟨p, r, e, hp, hr⟩ := R.at (i := n) (by omega)
  exact ⟨a, _, _, .ref p, rfl, rfl, h, atI_nat e, q p r hr hp⟩
theorem ixrowL (h : SqL K H a vs) (R : Rws g H vs rs) (h1 : 0 < rs.length) (q : ∀ p r, rs.getLast? = some r → H p = some (.tup ((g r).map V.int)) → Q (.ref p) H) : rIxL K (.ref a) (.int (-1)) H Q := by
  obtain ⟨p, r, e, hp, hr⟩ := R.at (i := rs.length - 1) (by omega)
  have hl := R.len
  rw [← List.getLast?_eq_getElem?] at hr
  rw [← hl, ← List.getLast?_eq_getElem?] at e
  refine ⟨a, _, _, .ref p, rfl, rfl, h, ?_, q p r hr hp⟩
  obtain ⟨ys, rfl⟩ := List.getLast?_eq_some_iff.mp e
  exact atI_last _ _
end
/-! ### slices -/
theorem cutV_take {xs : List V} {k : Int} (h : 0 ≤ k) : cutV xs none (some k) = xs.take k.toNat := by
  obtain ⟨n, rfl⟩ := Int.eq_ofNat_of_zero_le h
  unfold cutV
  rw [HT.sIx_none, HT.sIx_nat, List.drop_zero, Nat.sub_zero, Int.toNat_natCast]
  by_cases c : n ≤ xs.length
  · rw [Nat.min_eq_left c]
  · rw [Nat.min_eq_right (by omega), List.take_of_length_le (by omega), List.take_of_length_le (by omega)]
theorem cutV_drop {xs : List V} {k : Int} (h : 0 ≤ k) : cutV xs (some k) none = xs.drop k.toNat := by
  obtain ⟨n, rfl⟩ := Int.eq_ofNat_of_zero_le h
  unfold cutV
  rw [HT.sIx_none, HT.sIx_nat, Int.toNat_natCast]
  by_cases c : n ≤ xs.length
  · rw [Nat.min_eq_left c]
    exact List.take_of_length_le (by rw [List.length_drop]; exact Nat.le_refl _)
  · rw [Nat.min_eq_right (by omega), List.drop_of_length_le (Nat.le_refl _), List.drop_of_length_le (by omega), List.take_nil]
theorem cutV_init {xs : List V} : cutV xs none (some (-1)) = xs.dropLast := by
  unfold cutV
  rw [HT.sIx_none, List.drop_zero, Nat.sub_zero, List.dropLast_eq_take]
  congr 1
  unfold HT.sIx
  show (if (-1 : Int) < 0 then ((-1 : Int) + (xs.length : Int)).toNat else min (-1 : Int).toNat xs.length) = _
  rw [if_pos (by decide)]; omega
theorem cutV_last {xs : List V} : cutV xs (some (-1)) none = xs.drop (xs.length - 1) := by
  unfold cutV
  rw [HT.sIx_none]
  have : HT.sIx xs.length 0 (some (-1)) = xs.length - 1 := by
    unfold HT.sIx
    show (if (-1 : Int) < 0 then ((-1 : Int) + (xs.length : Int)).toNat else min (-1 : Int).toNat xs.length) = _
    rw [if_pos (by decide)]; omega
  rw [this]
  exact List.take_of_length_le (by rw [List.length_drop]; exact Nat.le_refl _)
section
variable {H : Hp} {p : Addr}
theorem sl_take {xs : List Int} {k : Int} (h : 0 ≤ k) : upd H p (.lst (cutV (xs.map V.int) none (some k))) p = some (.lst ((xs.take k.toNat).map V.int)) := by
  rw [upd_same, cutV_take h, List.map_take]
theorem sl_drop {xs : List Int} {k : Int} (h : 0 ≤ k) : upd H p (.lst (cutV (xs.map V.int) (some k) none)) p = some (.lst ((xs.drop k.toNat).map V.int)) := by
  rw [upd_same, cutV_drop h, List.map_drop]
theorem sl_init {xs : List Int} : upd H p (.lst (cutV (xs.map V.int) none (some (-1)))) p = some (.lst (xs.dropLast.map V.int)) := by
  rw [upd_same, cutV_init, List.map_dropLast]
theorem sl_last {xs : List Int} : upd H p (.lst (cutV (xs.map V.int) (some (-1)) none)) p = some (.lst ((xs.drop (xs.length - 1)).map V.int)) := by
  rw [upd_same, cutV_last, List.length_map, List.map_drop]
theorem sl_rev {xs : List Int} : upd H p (.lst (xs.map V.int).reverse) p = some (.lst (xs.reverse.map V.int)) := by
  rw [upd_same, List.map_reverse]
theorem slv_take {xs : List V} {k : Int} (h : 0 ≤ k) : upd H p (.lst (cutV xs none (some k))) p = some (.lst (xs.take k.toNat)) := by rw [upd_same, cutV_take h]
theorem slv_drop {xs : List V} {k : Int} (h : 0 ≤ k) : upd H p (.lst (cutV xs (some k) none)) p = some (.lst (xs.drop k.toNat)) := by rw [upd_same, cutV_drop h]
theorem slv_init {xs : List V} : upd H p (.lst (cutV xs none (some (-1)))) p = some (.lst xs.dropLast) := by rw [upd_same, cutV_init]
theorem rep1_at {x k : Int} : upd H p (.lst (List.replicate k.toNat [V.int x]).flatten) p = some (.lst ((List.replicate k.toNat x).map V.int)) := by
  rw [upd_same]
  generalize k.toNat = n
  congr 2
  induction n with
  | zero => rfl
  | succ n ih => rw [List.replicate_succ, List.flatten_cons, ih]; rfl
theorem repn_at {xs : List Int} {k : Int} : upd H p (.lst (List.replicate k.toNat (xs.map V.int)).flatten) p = some (.lst ((List.replicate k.toNat xs).flatten.map V.int)) := by
  rw [upd_same]
  generalize k.toNat = n
  congr 2
  induction n with
  | zero => rfl
  | succ n ih => rw [List.replicate_succ, List.replicate_succ, List.flatten_cons, List.flatten_cons, ih, List.map_append]
end
/-! ### draws -/
inductive Drw : List Int → List Int → Prop
  | nil : Drw [] []
  | cons {r m : Int} {rs ms : List Int} : 0 ≤ r → r < m → Drw rs ms → Drw (r :: rs) (m :: ms)
theorem Drw.snoc {rs ms : List Int} {r m : Int} (h : Drw rs ms) (h0 : 0 ≤ r) (h1 : r < m) : Drw (rs ++ [r]) (ms ++ [m]) := by
  induction h with
  | nil => exact .cons h0 h1 .nil
  | cons a b _ ih => exact .cons a b ih
theorem Drw.turn {rs ms : List Int} {r m : Int} {i : Nat} (h : Drw rs (List.take i ms)) (hm : ms[i]? = some m) (h0 : 0 ≤ r) (h1 : r < m) : Drw (rs ++ [r]) (List.take (i + 1) ms) := by
  rw [List.take_add_one, hm]; exact h.snoc h0 h1
theorem Drw.len {rs ms : List Int} (h : Drw rs ms) : rs.length = ms.length := by
  induction h with
  | nil => rfl
  | cons _ _ _ ih => rw [List.length_cons, List.length_cons, ih]
theorem Drw.get {rs ms : List Int} {j : Nat} {m : Int} (h : Drw rs ms) (hm : ms[j]? = some m) : ∃ r, rs[j]? = some r ∧ 0 ≤ r ∧ r < m := by
  induction h generalizing j with
  | nil => cases hm
  | cons a b _ ih => cases j with
    | zero => cases hm; exact ⟨_, rfl, a, b⟩
    | succ j => exact ih hm
theorem Drw.bnd {rs ms : List Int} {j : Nat} {r : Int} (h : Drw rs ms) (hr : rs[j]? = some r) : ∃ m, ms[j]? = some m ∧ 0 ≤ r ∧ r < m := by
  have hl : j < ms.length := by rw [← h.len]; exact (List.getElem?_eq_some_iff.mp hr).1
  obtain ⟨r', e, a, b⟩ := h.get (List.getElem?_eq_getElem hl)
  rw [hr] at e; cases e
  exact ⟨_, List.getElem?_eq_getElem hl, a, b⟩
theorem Drw.all {rs ms : List Int} {i : Nat} (h : Drw rs (List.take i ms)) (e : i = (ms.map V.int).length) : Drw rs ms := by
  rw [List.length_map] at e; rw [e, List.take_length] at h; exact h
section
variable {K : PySem.W.Frag} {H : Hp} {Q : VK} {a : Addr}
theorem ixd {rs ms : List Int} {j : Nat} {m : Int} (h : SqL K H a (rs.map V.int)) (hd : Drw rs ms) (hm : ms[j]? = some m) (q : ∀ y, rs[j]? = some y → (0 ≤ y ∧ y < m) → Q (.int y) H) : rIxL K (.ref a) (.int j) H Q := by
  obtain ⟨r, e, b⟩ := hd.get hm
  refine ⟨a, _, _, .int r, rfl, rfl, h, atI_nat ?_, q r e b⟩
  rw [List.getElem?_map, e]; rfl
theorem gdown {n i : Nat} {lo : Int} {σ : L2.St} {R : L2.St → Hp → Prop} (h : ∀ x : Int, x = lo - (i : Int) → gName n (.int x) σ H R) : gName n (.int (lo + (i : Int) * (-1))) σ H R := h _ (by omega)
theorem gup {n i : Nat} {lo : Int} {σ : L2.St} {R : L2.St → Hp → Prop} (h : ∀ x : Int, x = lo + (i : Int) → gName n (.int x) σ H R) : gName n (.int (lo + (i : Int))) σ H R := h _ rfl
end
theorem bor_add {o a b : Int} {n : Nat} (h : o = Builtin.bitOr (a * 2 ^ n) b) (h0 : 0 ≤ a) (b0 : 0 ≤ b) (b1 : b < 2 ^ n) : o = a * 2 ^ n + b := by
  obtain ⟨x, rfl⟩ := Int.eq_ofNat_of_zero_le h0
  obtain ⟨y, rfl⟩ := Int.eq_ofNat_of_zero_le b0
  have e : (x : Int) * 2 ^ n = ((2 ^ n * x : Nat) : Int) := by rw [Int.natCast_mul, Int.natCast_pow, Int.mul_comm]; rfl
  have hy : y < 2 ^ n := by exact_mod_cast b1
  rw [h, e, bitOr_nn (Int.natCast_nonneg _) (Int.natCast_nonneg _), Int.toNat_natCast, Int.toNat_natCast, ← Nat.two_pow_add_eq_or_of_lt hy, Int.natCast_add]
theorem or2 {o a b s : Int} (h : o = Builtin.bitOr s b) (hs : s = a * 2) (h0 : 0 ≤ a) (b0 : 0 ≤ b) (b1 : b < 2) : o = 2 * a + b := by
  have g := bor_add (n := 1) (a := a) (b := b) (o := o) (by rw [h, hs]; rfl) h0 b0 (by omega)
  omega

end Ow
namespace Ow
open PySem L2

section
variable {X : Cx} {e : Expr} {es : List Expr} {ta : TA} {b : Str} {B : Addr} {mc : Value} {p1 p2 pos : Pos}
open PyProof.Rows PySem.Spec in
/-- B.__init__(self, ..), B an own class whose __init__ is ValueError's -/
theorem pe_winit {pl : Sem Bool} (hg : Gl X b) (hm : X.mg b = some (.ref B)) (rd : ClX.CRead X.K B mc) (cv : PySem.W.findCls X.K (.ref B) mc "__init__" = some (.val (.builtin "ValueError.__init__"))) (ha : PA X (e :: es) ta)
    (hdb : (b == ("__debug__" : Str)) = false := by decide)
    (hc : eval (.Call (.Attribute (.Name b p1) "__init__" p2) (e :: es) [] pos) X.env = (do
      let ov ← eval (.Name b p1) X.env
      standAt p2.atName
      let (f, first) ← holding [ov] (getMethod ov "__init__" pl)
      callWith pos f first (backTo pos (starEach (e :: es) X.env)) (backToKw pos (keywordEach [] X.env))) := by rfl)
    (he : starEach (e :: es) X.env = (false, eval e X.env) :: starEach es X.env := by rfl) (hpl : (backTo pos (starEach es X.env)).any (·.1) = false := by rfl) :
    PE X (.Call (.Attribute (.Name b p1) "__init__" p2) (e :: es) [] pos) (tVeI X.K ta) := by
  refine ⟨fun pins s σ H Q I h => ?_⟩
  refine PySem.W.methodCall_KW (ld_glob I hg hm ?_ hdb) hc
  refine PySem.W.method_cls I.kIn rd.ga (PySem.W.cls_value I.kIn rd.rd cv (by decide +kernel) ?_)
  show wpAny _ _ (callWith pos (Value.builtin "ValueError.__init__") [] (backTo pos (starEach (e :: es) X.env)) []) _ _ _
  refine PyProof.Rows.callWith_method1 (thn (ha.run pos pins _ σ H _ (I.tok _) h) fun us s1 ⟨vs, H1, I1, r1, a, C, ws, ev, hl, T, ea, q⟩ => ?_) he hpl
  subst ev
  cases r1 with
  | @cons _ u0 _ ur ra rw' =>
    obtain rfl : u0 = Value.ref a := ra
    have hlen : ur.length ≤ sizeLine := by
      rw [← Paired.length rw', sizeLine_eq]
      omega
    exact oinit_ok T I1 ea hlen fun s' J => ⟨.non, H1, J, rfl, q⟩
/-- C(), C's own __init__ keeping sp, no field stored -/
def tMkN (C : Addr) (sp : Sp) : L2.St → Hp → XK → Prop := fun σ H1 Q => ∀ a, H1 a = none → sp [.ref a] (upd H1 a (exo a C none))
  (fun v H2 => v = .non ∧ H2 a = some (exo a C none) ∧ Q (.ref C) none (del H2 a)) (fun _ _ _ => False)
open PyProof.Rows PySem.Spec in
theorem mk_endN {pins : List (Addr × Obj)} {σ : L2.St} {H1 H2 : Hp} {hp hp2 h2 : Heap} {g1 g2 : Array GenState} {d1 d2 : Drawn} {t1 t2 : Nat} {os1 os2 : OsState} {a C : Addr} (I1 : L2.Inv X pins σ H1 ⟨hp, g1, d1, t1, os1⟩)
    (ha : hp.objs.size ≤ a) (k : ∀ b o, hp.get? b = some o → hp2.get? b = some o) (un : Un (frs X.stack) [] (upd H1 a (exo a C none)) H2 hp2 h2) (hok : HOk X.prog X.w H2 h2) (ho : os2 = os1) (hb : AllBare g2)
    (ea : H2 a = some (exo a C none)) :
    ∃ (t0 : Addr) (G : Heap), L2.Inv X pins σ (del H2 a) ⟨G, g2, d2, t2, os2⟩ ∧ (∀ b o, G.get? b = some o → h2.get? b = some o) ∧ G.get? a = none ∧
      h2.get? a = some ({ cls := .ref C, dict := none, data := .fields #[.ref t0, .none, .none, .none, .bool false, .none] } : Obj) ∧ (del H2 a) a = none := by
  obtain ⟨t0, hoe⟩ := exo_at hok ea
  have hn : H1 a = none := I1.hok.fresh ha
  obtain ⟨G, g1', g2'⟩ := restrict h2 fun b => decide (b ≠ a)
  have gk : ∀ b, b ≠ a → G.get? b = h2.get? b := fun b hb => g1' b (decide_eq_true hb)
  have ge : G.get? a = none := g2' a (by simp)
  have nha : ∀ {b : Addr} {o : Obj}, hp.get? b = some o → b ≠ a := fun {b o} z => Nat.ne_of_lt (Nat.lt_of_lt_of_le (Heap.lt_size z) ha)
  have up : ∀ {b : Addr}, b ≠ a → H1 b = none → upd H1 a (exo a C none) b = none := fun {b} hb n => by rw [upd_ne hb]; exact n
  have U : Un (frs X.stack) [] H1 (del H2 a) hp G := {
    keep := fun b o z n hf hx => by
      rw [gk b (nha z)]
      exact un.keep b o (k b o z) (up (nha z) n) hf hx
    slot := fun b o z n hf hx => by
      rw [gk b (nha z)]
      exact un.slot b o (k b o z) (up (nha z) n) hf hx
    free := fun b o z n hx => by
      rw [del_ne (nha z)]
      exact un.free b o (k b o z) (up (nha z) n) hx
    there := fun b o z hx => by
      rw [gk b (nha z)]
      exact un.there b o (k b o z) hx
    tups := fun b xs z => by
      rw [del_ne (ne_of_none z hn)]
      exact un.tups b xs (by rw [upd_ne (ne_of_none z hn)]; exact z)
    frzs := fun b o v z => by
      rw [del_ne (ne_of_none z hn)]
      exact un.frzs b o v (by rw [upd_ne (ne_of_none z hn)]; exact z)
    tbls := fun b ps z => by
      rw [del_ne (ne_of_none z hn)]
      exact un.tbls b ps (by rw [upd_ne (ne_of_none z hn)]; exact z) }
  have hok3 : HOk X.prog X.w (del H2 a) G := fun b o z => by
    have hba : b ≠ a := fun e => by
      rw [e, del_same] at z
      cases z
    rw [del_ne hba] at z
    have noa : ∀ {c : Addr}, H2 c = some (.own b) → c ≠ a := fun {c} hc => at_ne ea hc exo_own
    exact (hok b o z).stay (fun c v hc y => by
        have hca : c ≠ a := by
          rcases hc with hc | hc
          · rw [hc]
            exact hba
          · exact noa hc
        rw [gk c hca]
        exact y)
      (fun c hc => by rw [del_ne (noa hc)]; exact hc) (fun c xs hc => by rw [del_ne (at_ne ea hc exo_tup)]; exact hc)
  have J : L2.Inv X pins σ (del H2 a) ⟨G, g2, d2, t2, os2⟩ := I1.call' (ch := []) ho U hok3 hb (fun b z => absurd z (by simp))
  refine ⟨t0, G, J, fun b o z => ?_, ge, hoe, del_same⟩
  by_cases hba : b = a
  · rw [hba, ge] at z
    cases z
  · exact (gk b hba).symm.trans z
open PyProof.Rows PySem.Spec in
theorem pmk_oexN {CX : CXT} {x : Str} {C fI : Addr} {k : Nat} {fd : FuncData} {ps : List Str} {sp : Sp} {p : Pos} (T : OexC X.K C) (iC : PySem.W.findIn X.K (.ref C) "__init__" = some (some (.ref fI))) (tI : PySem.W.typeIn X.K (.ref fI) = some (.type "function"))
    (F1 : FnOk X.prog X.w X.K X.mg X.base CX k fI fd ps sp) (hr : Room (k + 1) X.A) (hb : Binds X.K fd ps []) (hx : Passes CX X (fun _ _ _ => False)) (hg : Gl X x) (hm : X.mg x = some (.ref C))
    (hdb : (x == ("__debug__" : Str)) = false := by decide) :
    PMk X (.Call (.Name x p) [] [] pos) (tMkN C sp) := by
  intro pins s σ H Q I q1
  obtain ⟨nm, q, N, bs, bm, sn, sub, ab, col, dd, k0, k1, k2, k3, k5, hC, hbm⟩ := T.cls
  refine wpAny_Call_Name_kw (ld_glob I hg hm ?_ hdb)
  refine PySem.W.callWith_K0 I.kIn T.kC ?_
  show wpAny _ _ (call (.ref C) []) _ _ _
  obtain ⟨hp, g, dr, tk, os⟩ := s
  have hsz : hp.objs.size ≤ hp.objs.size + 1 := Nat.le_succ _
  have hn : H (hp.objs.size + 1) = none := I.hok.fresh hsz
  have hq := q1 (hp.objs.size + 1) hn
  have kk : ∀ b o, hp.get? b = some o → ((hp.push (PySem.W.kdv_tup [])).push (PySem.HandSPX.excO C hp.objs.size)).get? b = some o := fun b o e => Heap.get?_push_of_some _ (Heap.get?_push_of_some _ e)
  have hget : ((hp.push (PySem.W.kdv_tup [])).push (PySem.HandSPX.excO C hp.objs.size)).get? (hp.objs.size + 1) = some (PySem.HandSPX.excO C hp.objs.size) := by heap_get
  have I2 : L2.Inv X pins σ (upd H (hp.objs.size + 1) (exo (hp.objs.size + 1) C none)) ⟨(hp.push (PySem.W.kdv_tup [])).push (PySem.HandSPX.excO C hp.objs.size), g, dr, tk, os⟩ :=
    I.laid (t' := tk) (a := hp.objs.size + 1) (o := exo (hp.objs.size + 1) C none) (h' := (hp.push (PySem.W.kdv_tup [])).push (PySem.HandSPX.excO C hp.objs.size)) kk hsz (exo_ok hget)
  have r2 : Vals [V.ref (hp.objs.size + 1)] [Value.ref (hp.objs.size + 1)] := .cons rfl .nil
  have hl : ([Value.ref (hp.objs.size + 1)] : List Value).length = ps.length := by
    have e := r2.length
    rw [F1.len _ _ _ _ hq] at e
    exact e.symm
  refine wpAny_call (PySem.HandSPX.call_own F.excBase_ValueError (fun Y => PySem.HandSPX.refsVE_contains Y bm hbm) (I.kIn _ _ hC) (PySem.W.looks_findIn I.kIn iC) (fun self => PySem.W.bind_fn I.kIn self tI) (by simp)
    (codeAny_mono (F1.run _ X.stack _ _ ⟨[Value.ref (hp.objs.size + 1)], []⟩ ([Value.ref (hp.objs.size + 1)] ++ []) _ _ (fun _ _ _ => False) (hr.make C [] []) (I2.env0.make C [] []) (hb _ [Value.ref (hp.objs.size + 1)] I2.kIn hl) (r2.append .nil) hq) fun r s' hq' => ?_))
  cases r with
  | error er => exact hx pins σ _ _ er s' I2 hq'
  | ok fl =>
    cases fl with
    | ret u =>
      obtain ⟨v, H2, os2, bare2, un2, hok2, rv, ev, ea, q2⟩ := hq'
      subst ev
      obtain ⟨h2, g2, d2, t2, os'⟩ := s'
      refine ⟨rv, ?_⟩
      obtain ⟨t0, G, J, kG, ge, hoe, na⟩ := mk_endN (d2 := d2) (t2 := t2) I hsz kk un2 hok2 os2 bare2 ea
      exact ⟨hp.objs.size + 1, _, _, ⟨G, g2, d2, t2, os'⟩, _, .ref C, none, rfl, J, kG, ge, hoe, ⟨rfl, rfl⟩, rfl, rfl, na, rfl, bare2, raises_own T.exC T.tyC, q2⟩
    | next => exact False.elim hq'
    | brk => exact False.elim hq'
    | cont => exact False.elim hq'
end

theorem del_upd {H : Hp} {a : Addr} {o : HO} (h : H a = none) : del (upd H a o) a = H := by
  funext b
  by_cases hb : b = a
  · rw [hb, del_same, h]
  · rw [del_ne hb, upd_ne hb]
/-- isinstance of what the suite holds -/
theorem call_isE2 {X : Cx} {a : Addr} {oe : Obj} {cls : Value} {d : Option Addr} {pn : List (Addr × Obj)} (hz : Zc cls d oe) (hf : ∃ vs, oe.data = .fields vs) :
    CallR (X.suite a ((a, oe) :: pn)) (.builtin "isinstance") (fun xs H Q => ∃ (D C : Addr) (b : Bool), cls = .ref D ∧ d = none ∧ ExcC X.K D ∧ xs = [.ref a, .ref C] ∧ PySem.W.kitOne X.K (.ref D) (.ref C) = some b ∧ Q (.bl b) H) := by
  intro pins s σ H xs us Q I r h
  obtain ⟨D, C, b, rfl, rfl, E, rfl, hk, q⟩ := h
  exact call_isE E hz hf pins s σ H _ us Q I r ⟨.ref C, .ref C, b, rfl, fun u h => h, hk, q⟩
structure Xc (K : PySem.W.Frag) (mg : Str → Option Value) (x : Str) : Type where
  C : Addr
  m : mg x = some (.ref C)
  oex : OexC K C
  ex : ExcC K C
structure Bc (K : PySem.W.Frag) (mg : Str → Option Value) (x : Str) : Type where
  C : Addr
  m : mg x = some (.ref C)
  mc : Value
  rd : ClX.CRead K C mc
  cv : PySem.W.findCls K (.ref C) mc "__init__" = some (.val (.builtin "ValueError.__init__"))
structure Xi (K : PySem.W.Frag) (C : Addr) (qual : Str) (st : Stmt) (ps : List Str) : Type where
  f : Addr
  fd : FuncData
  F : Fun K "__init__" qual st f fd
  b : Binds K fd ps []
  iC : PySem.W.findIn K (.ref C) "__init__" = some (some (.ref f))
  tI : PySem.W.typeIn K (.ref f) = some (.type "function")

theorem kit_self {K : PySem.W.Frag} {t : Value} : PySem.W.kitOne K t t = some true := by
  unfold PySem.W.kitOne; rw [if_pos (beq_self_eq_true _)]
theorem kit_sub {K : PySem.W.Frag} {t : Value} {C : Addr} {b : Bool} (ne : (t == Value.ref C) = false) (h2 : PySem.W.isClsIn K C = true) (h3 : PySem.W.typeIn K (.ref C) = some (.type "type")) (h4 : PySem.W.subIn K t (.ref C) = some b) : PySem.W.kitOne K t (.ref C) = some b := by
  unfold PySem.W.kitOne PySem.W.kitCls
  have h2' : (PySem.W.clsIn K C).isSome = true := h2
  rw [if_neg (by rw [ne]; decide)]
  dsimp only
  rw [if_pos (by rw [h2', h3]; rfl)]
  exact h4

/-- C() of a class without any __init__ -/
structure Mk0 (K : PySem.W.Frag) (C : Addr) : Prop where
  makes : PySem.W.makesIn K C = true
  init : PySem.W.findIn K (.ref C) "__init__" = some (some (.builtin "object.__init__"))
  top : PySem.W.mroIn K C (.type "object") = some true
  kp : PySem.W.keepIn K (.ref C) = true
section
variable {X : Cx} {C : Addr} {x : Str} {p pos : Pos}
open PySem.W PySem.Calls PyProof.Rows NwA in
theorem run_make00 {pins : List (Addr × Obj)} {σ : L2.St} {H : Hp} {s : Shared} {Q : VK} (M : Mk0 X.K C) (I : L2.Inv X pins σ H s)
    (h : ∀ x dx, H x = Option.none → H dx = Option.none → dx ≠ x → Q (.ref x) (upd (upd H dx (.own x)) x (.ins C dx []))) : wpAny (model X.prog X.w) X.A (PySem.call (.ref C) []) (EP X pins σ Q) X.xe s := by
  have hq := h (s.heap.objs.size + 1) s.heap.objs.size (I.hok.fresh (Nat.le_succ _)) (I.hok.fresh (Nat.le_refl _)) (Nat.ne_of_lt (Nat.lt_succ_self _))
  have I2 := Inv.made (C := C) I
  refine wpAny_call (make_map0 I.kIn M.makes M.init (fun self => Looks.of_pure (oi_bind _)) ?_)
  have ho : ((s.heap.push PySem.W.emptyDict).push (PySem.W.instObj C s.heap.objs.size)).get? (s.heap.objs.size + 1) = some (PySem.W.instObj C s.heap.objs.size) := by
    have := Heap.get?_push_size (s.heap.push PySem.W.emptyDict) (o := PySem.W.instObj C s.heap.objs.size) rfl
    rwa [Heap.size_push] at this
  have t1 : Looks (model X.prog X.w) ((s.heap.push PySem.W.emptyDict).push (PySem.W.instObj C s.heap.objs.size)) (typeOf (.ref (s.heap.objs.size + 1))) (.ref C) := type_at ho rfl
  have t2 : Looks (model X.prog X.w) ((s.heap.push PySem.W.emptyDict).push (PySem.W.instObj C s.heap.objs.size)) (isInstance (.ref (s.heap.objs.size + 1)) (.type "object")) true := t1.andThen (looks_mroIn I2.kIn M.top)
  refine codeAny_call_builtin oi_plain entry_oi (@check_slot _ _ _ _ "object.__init__" "object" "__init__" (.ref (s.heap.objs.size + 1)) [] [] _ oi_kind oi_split t2 (oi_args_any _ [] []) ?_)
  rw [oi_run]
  exact wpAny_pure ⟨rfl, ⟨V.ref (s.heap.objs.size + 1), _, I2, rfl, hq⟩⟩
def tMake00 (C : Addr) : TE := fun _ H Q => ∀ x dx, H x = none → H dx = none → dx ≠ x → Q (.ref x) (upd (upd H dx (.own x)) x (.ins C dx []))
theorem pe_make00 (M : Mk0 X.K C) (hg : Gl X x) (hm : X.mg x = some (.ref C)) (hdb : (x == ("__debug__" : Str)) = false := by decide) : PE X (.Call (.Name x p) [] [] pos) (tMake00 C) := by
  refine ⟨fun pins s σ H Q I h => ?_⟩
  refine wpAny_Call_Name_kw (ld_glob I hg hm ?_ hdb)
  exact PySem.W.callWith_K0 I.kIn M.kp (run_make00 M I h)
/-- one of two readings -/
theorem pe_alt {e : Expr} {t u : TE} (h1 : PE X e t) (h2 : PE X e u) : PE X e (fun σ H Q => t σ H Q ∨ u σ H Q) :=
  ⟨fun pins s σ H Q I h => h.elim (h1.run pins s σ H Q I) (h2.run pins s σ H Q I)⟩
end

theorem free2 {H : Hp} {dx x : Addr} {o : HO} (hne : dx ≠ x) (hx : H x = none) : upd H dx o x = none := by rw [upd_ne (fun z => hne z.symm)]; exact hx
/-- a method of one of several classes -/
def MAlt (X : Cx) (CX : CXT) (m : Str) (C : Addr) (sp : Sp) : Prop :=
  ∃ f fd ps k, Cls X.K C ∧ Meth X.K C m f ∧ FnOk X.prog X.w X.K X.mg X.base CX k f fd ps sp ∧ Room k X.A ∧ Binds X.K fd ps []
def tMethA (R : Addr → Sp → Prop) (m : Str) (E : XK) (ta : TE) (t : TA) : TE := fun σ H Q => ta σ H fun x H1 => ∃ a dx fs C sp, x = .ref a ∧ R C sp ∧ H1 a = some (.ins C dx fs) ∧ fs.lookup m = none ∧ t σ H1 fun vs H2 => sp (.ref a :: vs) H2 Q E
section
variable {X : Cx} {CX : CXT} {E : XK} {R : Addr → Sp → Prop} {o e : Expr} {es : List Expr} {m : Str} {apos pos : Pos} {ta : TE} {t : TA}
theorem pe_methA {pl : Sem Bool} (he : PE X o ta) (hall : ∀ C sp, R C sp → MAlt X CX m C sp) (hx : Passes CX X E) (ha : PA X (e :: es) t)
    (hst : starEach (e :: es) X.env = (false, eval e X.env) :: starEach es X.env := by rfl) (hpl : (backTo pos (starEach es X.env)).any (·.1) = false := by rfl)
    (ht : eval (.Call (.Attribute o m apos) (e :: es) [] pos) X.env = (do
      let ov ← eval o X.env
      standAt apos.atName
      let (f, first) ← holding [ov] (getMethod ov m pl)
      callWith pos f first (backTo pos (starEach (e :: es) X.env)) (backToKw pos (keywordEach [] X.env))) := by rfl) :
    PE X (.Call (.Attribute o m apos) (e :: es) [] pos) (tMethA R m E ta t) := by
  refine ⟨fun pins s σ H Q I h => ?_⟩
  refine PySem.W.methodCall_KW (pl := pl) (thn (he.run pins s σ H _ I h) fun u s1 ⟨x, H1, I1, rx, a, dx, fs, C, sp, ex, hr, ea, l, q⟩ => ?_) ht
  obtain ⟨f, fd, ps, k, c, hm, F, hr, hb⟩ := hall C sp hr
  subst ex
  obtain rfl : u = Value.ref a := rx
  refine getmeth_ok I1 ea c hm l ?_
  refine PySem.W.callWith_K (first := [.ref a]) (h₀ := X.base) I.ok.mod.kin hm.kp (thn (ha.run pos pins s1 σ H1 _ I1 q) fun us s2 ⟨vs, H2, I2, r, q2⟩ => ⟨I2.kIn, ?_⟩) hst hpl
  exact run_fn (us := .ref a :: us) (vs := .ref a :: vs) F hr hb .nil hx I2 (.cons rfl r) (by rw [List.append_nil]; exact q2)
theorem pe_methA0 {pl : Sem Bool} (he : PE X o ta) (hall : ∀ C sp, R C sp → MAlt X CX m C sp) (hx : Passes CX X E)
    (ht : eval (.Call (.Attribute o m apos) [] [] pos) X.env = (do
      let ov ← eval o X.env
      standAt apos.atName
      let (f, first) ← holding [ov] (getMethod ov m pl)
      callWith pos f first (backTo pos (starEach [] X.env)) (backToKw pos (keywordEach [] X.env))) := by rfl) :
    PE X (.Call (.Attribute o m apos) [] [] pos) (tMethA R m E ta tNil) := by
  refine ⟨fun pins s σ H Q I h => ?_⟩
  refine PySem.W.methodCall_KW (pl := pl) (thn (he.run pins s σ H _ I h) fun u s1 ⟨x, H1, I1, rx, a, dx, fs, C, sp, ex, hr, ea, l, q⟩ => ?_) ht
  obtain ⟨f, fd, ps, k, c, hm, F, hr, hb⟩ := hall C sp hr
  subst ex
  obtain rfl : u = Value.ref a := rx
  refine getmeth_ok I1 ea c hm l ?_
  exact PySem.W.callWith_K0 (first := [.ref a]) I1.kIn hm.kp (run_fn (us := [.ref a]) (vs := [.ref a]) F hr hb .nil hx I1 (.cons rfl .nil) q)
end
theorem mal_one {X : Cx} {CX : CXT} {m : Str} {C0 : Addr} {sp0 : Sp} (h : MAlt X CX m C0 sp0) : ∀ C sp, (C = C0 ∧ sp = sp0) → MAlt X CX m C sp := by
  rintro _ _ ⟨rfl, rfl⟩; exact h
theorem mal_or {X : Cx} {CX : CXT} {m : Str} {R1 R2 : Addr → Sp → Prop} (h1 : ∀ C sp, R1 C sp → MAlt X CX m C sp) (h2 : ∀ C sp, R2 C sp → MAlt X CX m C sp) : ∀ C sp, (R1 C sp ∨ R2 C sp) → MAlt X CX m C sp :=
  fun C sp h => h.elim (h1 C sp) (h2 C sp)
/-- a class of the text whose instances are made -/
structure Kc (K : PySem.W.Frag) (mg : Str → Option Value) (x : Str) : Type where
  C : Addr
  m : mg x = some (.ref C)
  cl : Cls K C
structure Dm (K : PySem.W.Frag) (x qual : Str) (st : Stmt) (ps : List Str) : Type where
  f : Addr
  fd : FuncData
  F : Fun K x qual st f fd
  b : Binds K fd ps []

end Ow
namespace Ow
open PySem L2
local macro_rules | `(tactic| walk_at "ob") => `(tactic| first | assumption | omega | exact ⟨by omega, by omega⟩ | exact ⟨by omega, by omega, by omega⟩ | exact Ow.divw64 (by omega) (by omega) | exact Or.inl ⟨by omega, by omega⟩ | exact Or.inr ⟨by omega, by omega⟩)

/-- one turn of a guess: the bit and the rest -/
def gstep (word low rest : Int) (k : Nat) : Int × Int := if word ≤ 2 * rest + low / 2 ^ k % 2 then (1, 2 * rest + low / 2 ^ k % 2 - word) else (0, 2 * rest + low / 2 ^ k % 2)
def grows (word low : Int) : Nat → Int → List (Int × Int)
  | 0, _ => []
  | k + 1, rest => gstep word low rest k :: grows word low k (gstep word low rest k).2
def gnum (rs : List (Int × Int)) : Int := rs.foldl (fun g r => 2 * g + r.1) 0
theorem gnum_turn {rs : List (Int × Int)} {i : Nat} {r : Int × Int} (h : rs[i]? = some r) : gnum (rs.take (i + 1)) = 2 * gnum (rs.take i) + r.1 := by
  unfold gnum
  rw [List.take_add_one, h, List.foldl_append]; rfl
theorem grows_len (word low : Int) : ∀ (n : Nat) (rest : Int), (grows word low n rest).length = n
  | 0, _ => rfl
  | n + 1, rest => by rw [grows, List.length_cons, grows_len word low n]
theorem foldl_acc : ∀ (rs : List (Int × Int)) (g : Int), rs.foldl (fun g r => 2 * g + r.1) g = g * 2 ^ rs.length + rs.foldl (fun g r => 2 * g + r.1) 0
  | [], g => by simp
  | r :: rs, g => by
    rw [List.foldl_cons, List.foldl_cons, foldl_acc rs, foldl_acc rs (2 * 0 + r.1), List.length_cons, Int.pow_succ, Int.mul_zero, Int.zero_add, Int.add_mul, Int.add_assoc]
    congr 1
    rw [Int.mul_comm 2 g, Int.mul_assoc, Int.mul_comm 2]
theorem gnum_cons (r : Int × Int) (rs : List (Int × Int)) : gnum (r :: rs) = r.1 * 2 ^ rs.length + gnum rs := by
  unfold gnum
  rw [List.foldl_cons, foldl_acc, Int.mul_zero, Int.zero_add]
theorem bit01 (low : Int) (k : Nat) : 0 ≤ low / 2 ^ k % 2 ∧ low / 2 ^ k % 2 < 2 := by omega
theorem low_split (low : Int) (n : Nat) : low % 2 ^ (n + 1) = low / 2 ^ n % 2 * 2 ^ n + low % 2 ^ n := by
  have hp := p2 n
  have e1 := Int.ediv_mul_add_emod low (2 ^ n)
  have e2 := Int.ediv_mul_add_emod (low / 2 ^ n) 2
  have a0 := Int.emod_nonneg low (show (2 : Int) ^ n ≠ 0 by omega)
  have a1 := Int.emod_lt_of_pos low hp
  have b := bit01 low n
  generalize low / 2 ^ n = q at *
  generalize low % 2 ^ n = r at *
  generalize hb : q % 2 = b1 at *
  generalize q / 2 = q2 at *
  have e : low = (b1 * 2 ^ n + r) + (2 ^ (n + 1)) * q2 := by
    rw [← e1, ← e2, Int.pow_succ, Int.add_mul, Int.mul_assoc, Int.mul_comm q2, Int.mul_comm 2 (2 ^ n)]; omega
  rw [e, Int.add_mul_emod_self_left]
  refine Int.emod_eq_of_lt ?_ ?_
  · have := Int.mul_nonneg b.1 (show (0 : Int) ≤ 2 ^ n by omega)
    omega
  · rw [Int.pow_succ]
    have : b1 = 0 ∨ b1 = 1 := by omega
    rcases this with rfl | rfl <;> omega
theorem gval {word low : Int} (w0 : 0 < word) : ∀ (n : Nat) (rest : Int), 0 ≤ rest → rest < word →
    ∃ last, 0 ≤ last ∧ last < word ∧ rest * 2 ^ n + low % 2 ^ n = word * gnum (grows word low n rest) + last
  | 0, rest, h0, h1 => ⟨rest, h0, h1, by simp [grows, gnum]⟩
  | n + 1, rest, h0, h1 => by
    have b := bit01 low n
    have hs : ∃ q r, gstep word low rest n = (q, r) ∧ 0 ≤ r ∧ r < word ∧ 2 * rest + low / 2 ^ n % 2 = word * q + r := by
      unfold gstep
      split
      · exact ⟨_, _, rfl, by omega, by omega, by omega⟩
      · exact ⟨_, _, rfl, by omega, by omega, by omega⟩
    obtain ⟨q, r, e, r0, r1, ev⟩ := hs
    obtain ⟨last, l0, l1, el⟩ := gval (low := low) w0 n r r0 r1
    refine ⟨last, l0, l1, ?_⟩
    rw [grows, e, gnum_cons, grows_len, low_split]
    show rest * 2 ^ (n + 1) + _ = word * (q * 2 ^ n + _) + last
    have c1 : rest * 2 ^ (n + 1) = (2 * rest) * 2 ^ n := by rw [Int.pow_succ, Int.mul_comm (2 ^ n) 2, ← Int.mul_assoc, Int.mul_comm rest 2]
    have c2 : (2 * rest + low / 2 ^ n % 2) * 2 ^ n = (word * q + r) * 2 ^ n := by rw [ev]
    rw [Int.add_mul, Int.add_mul, Int.mul_assoc word] at c2
    rw [c1, Int.mul_add]
    show _ = word * (q * 2 ^ n) + word * gnum (grows word low n r) + last
    omega
/-- all bits are 1 where the rest is the word itself, or more -/
theorem gfull {word low : Int} (w0 : 0 < word) : ∀ (n : Nat) (rest : Int), word ≤ rest → gnum (grows word low n rest) = 2 ^ n - 1
  | 0, _, _ => rfl
  | n + 1, rest, h => by
    have b := bit01 low n
    have e : gstep word low rest n = (1, 2 * rest + low / 2 ^ n % 2 - word) := by unfold gstep; rw [if_pos (by omega)]
    rw [grows, gnum_cons, e, grows_len, gfull w0 n _ (by show word ≤ 2 * rest + low / 2 ^ n % 2 - word; omega), Int.pow_succ]
    show 1 * 2 ^ n + _ = _
    omega
theorem gnum_le {word low : Int} : ∀ (n : Nat) (rest : Int), 0 ≤ gnum (grows word low n rest) ∧ gnum (grows word low n rest) ≤ 2 ^ n - 1
  | 0, _ => ⟨Int.le_refl 0, Int.le_refl 0⟩
  | n + 1, rest => by
    have ih := gnum_le (word := word) (low := low) n (gstep word low rest n).2
    have hp := p2 n
    rw [grows, gnum_cons, grows_len, Int.pow_succ]
    have : (gstep word low rest n).1 = 0 ∨ (gstep word low rest n).1 = 1 := by unfold gstep; split <;> simp
    rcases this with e | e <;> rw [e] <;> omega
/-- the guess is the lesser one of the greatest word and the quotient -/
theorem guess_min {w high low word : Int} (w0 : 0 < word) (h0 : 0 ≤ high) (h1 : high ≤ word) (l0 : 0 ≤ low) (l1 : low < 2 ^ w.toNat) :
    (high < word ∧ gnum (grows word low w.toNat high) = (high * 2 ^ w.toNat + low) / word ∧ (high * 2 ^ w.toNat + low) / word ≤ 2 ^ w.toNat - 1) ∨
    (high = word ∧ gnum (grows word low w.toNat high) = 2 ^ w.toNat - 1 ∧ 2 ^ w.toNat - 1 ≤ (high * 2 ^ w.toNat + low) / word) := by
  have hp := p2 w.toNat
  by_cases c : high < word
  · obtain ⟨last, a0, a1, e⟩ := gval (low := low) w0 w.toNat high h0 c
    rw [Int.emod_eq_of_lt l0 l1] at e
    have q : (high * 2 ^ w.toNat + low) / word = gnum (grows word low w.toNat high) := by
      rw [e, Int.add_comm, Int.add_mul_ediv_left _ _ (by omega), Int.ediv_eq_zero_of_lt a0 a1, Int.zero_add]
    exact .inl ⟨c, q.symm, by rw [q]; exact (gnum_le _ _).2⟩
  · have : high = word := by omega
    subst this
    refine .inr ⟨rfl, gfull w0 _ _ (Int.le_refl _), ?_⟩
    have : (2 : Int) ^ w.toNat ≤ (high * 2 ^ w.toNat + low) / high := Int.le_ediv_of_mul_le w0 (by rw [Int.mul_comm]; omega)
    omega
/-- rows so far and what is left -/
theorem grows_turn {word low rest : Int} {rs all : List (Int × Int)} {n i : Nat} (h : rs ++ grows word low (n - i) rest = all) (hi : i < n) : (rs ++ [gstep word low rest (n - i - 1)]) ++ grows word low (n - (i + 1)) (gstep word low rest (n - i - 1)).2 = all := by
  rw [← h]
  obtain ⟨k, e⟩ : ∃ k, n - i = k + 1 := ⟨n - i - 1, by omega⟩
  rw [e, grows, List.append_assoc]
  have e2 : n - (i + 1) = k := by omega
  rw [e2, show k + 1 - 1 = k by omega]
  rfl
theorem grows_at {word low come : Int} {rs : List (Int × Int)} {n i : Nat} {r : Int × Int} (h : rs.drop i = grows word low (n - i) come) (hi : i < n) (hr : rs[i]? = some r) : r = gstep word low come (n - 1 - i) ∧ rs.drop (i + 1) = grows word low (n - (i + 1)) r.2 := by
  obtain ⟨k, e⟩ : ∃ k, n - i = k + 1 := ⟨n - i - 1, by omega⟩
  rw [e, grows] at h
  have e2 : n - (i + 1) = k := by omega
  have e3 : n - 1 - i = k := by omega
  have h0 : (rs.drop i)[0]? = some r := by rw [List.getElem?_drop]; exact hr
  rw [h] at h0
  have e4 : gstep word low come k = r := by simpa using h0
  rw [e3, e2]
  refine ⟨e4.symm, ?_⟩
  have : rs.drop (i + 1) = (rs.drop i).tail := by rw [List.tail_drop]
  rw [this, h, e4]; rfl
theorem grows_at' {word low come k : Int} {rs : List (Int × Int)} {n i : Nat} {r : Int × Int} (h : rs.drop i = grows word low (n - i) come) (hk : k = (i : Int)) (hi : i < n) (hr : rs[k.toNat]? = some r) : r = gstep word low come (n - 1 - i) ∧ rs.drop (i + 1) = grows word low (n - (i + 1)) r.2 := by
  subst hk; rw [Int.toNat_natCast] at hr; exact grows_at h hi hr
theorem gnum_turn' {k : Int} {rs : List (Int × Int)} {i : Nat} {r : Int × Int} (hk : k = (i : Int)) (h : rs[k.toNat]? = some r) : gnum (rs.take (i + 1)) = 2 * gnum (rs.take i) + r.1 := by
  subst hk; rw [Int.toNat_natCast] at h; exact gnum_turn h
theorem grows_bit {word low : Int} : ∀ (n : Nat) (rest : Int) (r : Int × Int), r ∈ grows word low n rest → r.1 = 0 ∨ r.1 = 1
  | 0, _, _, h => by cases h
  | n + 1, rest, r, h => by
    rcases List.mem_cons.mp h with rfl | h
    · unfold gstep; split <;> simp
    · exact grows_bit n _ r h
theorem gnum_lt : ∀ (rs : List (Int × Int)), (∀ r ∈ rs, r.1 = 0 ∨ r.1 = 1) → 0 ≤ gnum rs ∧ gnum rs < 2 ^ rs.length
  | [], _ => ⟨Int.le_refl 0, by decide⟩
  | r :: rs, h => by
    have ih := gnum_lt rs fun q hq => h q (List.mem_cons_of_mem _ hq)
    have hp := p2 rs.length
    rw [gnum_cons, List.length_cons, Int.pow_succ]
    rcases h r List.mem_cons_self with e | e <;> rw [e] <;> omega
theorem gtake_lt {word low rest : Int} {n i : Nat} (hi : i ≤ n) : 0 ≤ gnum ((grows word low n rest).take i) ∧ gnum ((grows word low n rest).take i) < 2 ^ i := by
  have h := gnum_lt ((grows word low n rest).take i) fun r hr => grows_bit n rest r (List.mem_of_mem_take hr)
  rw [List.length_take, grows_len, Nat.min_eq_left hi] at h
  exact h
theorem word_sh {w x : Int} (hw : 1 ≤ w) (h0 : 2 ^ (w - 1).toNat ≤ x) (h1 : x < 2 ^ w.toNat) : x / 2 ^ (w - 1).toNat = 1 := by
  have hp := p2 (w - 1).toNat
  have e : (2 : Int) ^ w.toNat = 2 * 2 ^ (w - 1).toNat := by
    rw [show w.toNat = (w - 1).toNat + 1 by omega, Int.pow_succ, Int.mul_comm]
  have a : 1 ≤ x / 2 ^ (w - 1).toNat := Int.le_ediv_of_mul_le hp (by omega)
  have b : x / 2 ^ (w - 1).toNat < 2 := Int.ediv_lt_of_lt_mul hp (by omega)
  omega

def top (i : Nat) : Stmt := PySem.Challenge.pw_overwise_k54_guesses_by_bits.main.body.getD i (.Pass ⟨0, 0, 0, 0⟩)
abbrev s_l_drawn : Stmt := top 16
theorem sc_l_drawn : FnScope ["_law_cell", "_law_sizes", "_law_found", "_law_many", "_law_one", "_law_other"] ["_law_cell", "_law_sizes"] (defScope s_l_drawn) := ⟨rfl, rfl, rfl, by decide +kernel, rfl, by decide +kernel, by decide +kernel⟩
abbrev s_l_case : Stmt := top 18
theorem sc_l_case : FnScope ["_law_cell", "_law_draws", "_law_width", "_law_big", "_law_half", "_law_word", "_law_high", "_law_low"] ["_law_cell"] (defScope s_l_case) := ⟨rfl, rfl, rfl, by decide +kernel, rfl, by decide +kernel, by decide +kernel⟩
abbrev s_is_whole : Stmt := top 8
theorem sc_is_whole : FnScope ["thing"] ["thing"] (defScope s_is_whole) := ⟨rfl, rfl, rfl, by decide +kernel, rfl, by decide +kernel, by decide +kernel⟩
abbrev s_need_width : Stmt := top 9
theorem sc_need_width : FnScope ["width"] ["width"] (defScope s_need_width) := ⟨rfl, rfl, rfl, by decide +kernel, rfl, by decide +kernel, by decide +kernel⟩
abbrev s_need_word : Stmt := top 11
theorem sc_need_word : FnScope ["width", "thing"] ["width", "thing"] (defScope s_need_word) := ⟨rfl, rfl, rfl, by decide +kernel, rfl, by decide +kernel, by decide +kernel⟩
abbrev s_guess_rows : Stmt := top 13
theorem sc_guess_rows : FnScope ["width", "high", "low", "word", "rows", "rest", "k", "bit"] ["width", "high", "low", "word"] (defScope s_guess_rows) := ⟨rfl, rfl, rfl, by decide +kernel, rfl, by decide +kernel, by decide +kernel⟩
abbrev s_guess_of : Stmt := top 14
theorem sc_guess_of : FnScope ["width", "high", "low", "word", "guess", "bit", "rest"] ["width", "high", "low", "word"] (defScope s_guess_of) := ⟨rfl, rfl, rfl, by decide +kernel, rfl, by decide +kernel, by decide +kernel⟩
abbrev s_l_whole : Stmt := top 17
theorem sc_l_whole : FnScope ["_law_found"] ["_law_found"] (defScope s_l_whole) := ⟨rfl, rfl, rfl, by decide +kernel, rfl, by decide +kernel, by decide +kernel⟩
abbrev s_l_row : Stmt := top 19
theorem sc_l_row : FnScope ["_law_row_here", "_law_come", "_law_bit", "_law_word", "_law_now"] ["_law_row_here", "_law_come", "_law_bit", "_law_word"] (defScope s_l_row) := ⟨rfl, rfl, rfl, by decide +kernel, rfl, by decide +kernel, by decide +kernel⟩
abbrev s_l_held : Stmt := top 20
theorem sc_l_held : FnScope ["_law_width", "_law_high", "_law_low", "_law_word", "_law_rows", "_law_guess", "_law_come", "_law_number", "_law_k", "_law_due"] ["_law_width", "_law_high", "_law_low", "_law_word", "_law_rows", "_law_guess"] (defScope s_l_held) := ⟨rfl, rfl, rfl, by decide +kernel, rfl, by decide +kernel, by decide +kernel⟩
abbrev s_law : Stmt := top 21
theorem sc_law : FnScope ["_law_script", "_law_cell", "_law_width", "_law_high", "_law_low", "_law_word", "_law_first", "_law_guess", "_law_rows"] ["_law_script"] (defScope s_law) := ⟨rfl, rfl, rfl, by decide +kernel, rfl, by decide +kernel, by decide +kernel⟩
structure Tx (K : PySem.W.Frag) (mg : Str → Option Value) : Type where
  d_l_drawn : Ow.Dk K mg "_law_drawn" "_law_drawn" s_l_drawn ["_law_cell", "_law_sizes"]
  d_l_case : Ow.Dk K mg "_law_case" "_law_case" s_l_case ["_law_cell"]
  d_is_whole : Ow.Dk K mg "is_whole" "is_whole" s_is_whole ["thing"]
  d_need_width : Ow.Dk K mg "need_width" "need_width" s_need_width ["width"]
  d_need_word : Ow.Dk K mg "need_word" "need_word" s_need_word ["width", "thing"]
  d_guess_rows : Ow.Dk K mg "guess_rows" "guess_rows" s_guess_rows ["width", "high", "low", "word"]
  d_guess_of : Ow.Dk K mg "guess_of" "guess_of" s_guess_of ["width", "high", "low", "word"]
  d_l_whole : Ow.Dk K mg "_law_whole" "_law_whole" s_l_whole ["_law_found"]
  d_l_row : Ow.Dk K mg "_law_row" "_law_row" s_l_row ["_law_row_here", "_law_come", "_law_bit", "_law_word"]
  d_l_held : Ow.Dk K mg "_law_held" "_law_held" s_l_held ["_law_width", "_law_high", "_law_low", "_law_word", "_law_rows", "_law_guess"]
  d_law : Ow.Dk K mg "law" "law" s_law ["_law_script"]
  g_LEAST_WIDTH : ∃ t, mg "LEAST_WIDTH" = some (.int 4 t)
  g_GREATEST_WIDTH : ∃ t, mg "GREATEST_WIDTH" = some (.int 32 t)
  z_isinstance : mg "isinstance" = none
  z_bool : mg "bool" = none
  z_int : mg "int" = none
  z_range : mg "range" = none
  z_len : mg "len" = none
  z_tuple : mg "tuple" = none
  z_list : mg "list" = none
  z_min : mg "min" = none
def sp_l_drawn {K : PySem.W.Frag} {mg : Str → Option Value} (T : Tx K mg) : Sp := fun vs H Q E => ∃ (cell : Int) (sizes : Addr) (ms : List Int), vs = [.int cell, .ref sizes] ∧ H sizes = some (.lst (ms.map V.int)) ∧ (∀ m ∈ ms, 0 < m ∧ m ≤ 4294967296) ∧ (ms.length ≤ 100) ∧ (∀ (rs : List Int), (Ow.Drw rs ms) → ∀ aq H', Same H H' → H aq = none → H' aq = some (.lst (rs.map V.int)) → Q (.ref aq) H')
def sp_l_case {K : PySem.W.Frag} {mg : Str → Option Value} (T : Tx K mg) : Sp := fun vs H Q E => ∃ (cell : Int), vs = [.int cell] ∧ (∀ (width : Int), ∀ (high : Int), ∀ (low : Int), ∀ (word : Int), ∀ (f : Int), (4 ≤ width) → (width ≤ 32) → (2 ^ (width - 1).toNat ≤ word) → (word < 2 ^ width.toNat) → (0 ≤ high) → (high ≤ word) → (0 ≤ low) → (low < 2 ^ width.toNat) → ∀ aq H', Same H H' → H aq = none → H' aq = some (.tup [.int (width), .int (high), .int (low), .int (word), .int (f)]) → Q (.ref aq) H')
def sp_is_whole {K : PySem.W.Frag} {mg : Str → Option Value} (T : Tx K mg) : Sp := fun vs H Q E => ∃ (thing : Int), vs = [.int thing] ∧ (Q (.bl (true)) H)
def sp_need_width {K : PySem.W.Frag} {mg : Str → Option Value} (T : Tx K mg) : Sp := fun vs H Q E => ∃ (width : Int), vs = [.int width] ∧ (4 ≤ width) ∧ (width ≤ 32) ∧ (Q (.non) H)
def sp_need_word {K : PySem.W.Frag} {mg : Str → Option Value} (T : Tx K mg) : Sp := fun vs H Q E => ∃ (width : Int) (thing : Int), vs = [.int width, .int thing] ∧ (4 ≤ width) ∧ (width ≤ 32) ∧ (0 ≤ thing) ∧ (thing < 2 ^ width.toNat) ∧ (Q (.non) H)
def sp_guess_rows {K : PySem.W.Frag} {mg : Str → Option Value} (T : Tx K mg) : Sp := fun vs H Q E => ∃ (width : Int) (high : Int) (low : Int) (word : Int), vs = [.int width, .int high, .int low, .int word] ∧ (4 ≤ width) ∧ (width ≤ 32) ∧ (2 ^ (width - 1).toNat ≤ word) ∧ (word < 2 ^ width.toNat) ∧ (0 ≤ high) ∧ (high ≤ word) ∧ (0 ≤ low) ∧ (low < 2 ^ width.toNat) ∧ (∀ (rs : Ow.Rw2), (rs = Ow.grows word low width.toNat high) → ∀ aq H' vs_rs, Same H H' → H aq = none → H' aq = some (.lst vs_rs) → Ow.Rws Ow.g2 H' vs_rs rs → Q (.ref aq) H')
def sp_guess_of {K : PySem.W.Frag} {mg : Str → Option Value} (T : Tx K mg) : Sp := fun vs H Q E => ∃ (width : Int) (high : Int) (low : Int) (word : Int), vs = [.int width, .int high, .int low, .int word] ∧ (4 ≤ width) ∧ (width ≤ 32) ∧ (2 ^ (width - 1).toNat ≤ word) ∧ (word < 2 ^ width.toNat) ∧ (0 ≤ high) ∧ (high ≤ word) ∧ (0 ≤ low) ∧ (low < 2 ^ width.toNat) ∧ (∀ (r : Int), (r = Ow.gnum (Ow.grows word low width.toNat high)) → ∀ H', Same H H' → Q (.int (r)) H')
def sp_l_whole {K : PySem.W.Frag} {mg : Str → Option Value} (T : Tx K mg) : Sp := fun vs H Q E => ∃ (found : Int), vs = [.int found] ∧ (Q (.bl (true)) H)
def sp_l_row {K : PySem.W.Frag} {mg : Str → Option Value} (T : Tx K mg) : Sp := fun vs H Q E => ∃ (row : Addr) (come : Int) (bit : Int) (word : Int) (x : Int) (y : Int), vs = [.ref row, .int come, .int bit, .int word] ∧ H row = some (.tup [.int (x), .int (y)]) ∧ ((word ≤ 2 * come + bit ∧ x = 1 ∧ y = 2 * come + bit - word) ∨ (2 * come + bit < word ∧ x = 0 ∧ y = 2 * come + bit)) ∧ (∀ H', Same H H' → Q (.bl (true)) H')
def sp_l_held {K : PySem.W.Frag} {mg : Str → Option Value} (T : Tx K mg) : Sp := fun vs H Q E => ∃ (width : Int) (high : Int) (low : Int) (word : Int) (rows : Addr) (guess : Int) (rs : Ow.Rw2) (vs_rs : List V), vs = [.int width, .int high, .int low, .int word, .ref rows, .int guess] ∧ (4 ≤ width) ∧ (width ≤ 32) ∧ (2 ^ (width - 1).toNat ≤ word) ∧ (word < 2 ^ width.toNat) ∧ (0 ≤ high) ∧ (high ≤ word) ∧ (0 ≤ low) ∧ (low < 2 ^ width.toNat) ∧ (H rows = some (.lst vs_rs) ∧ Ow.Rws Ow.g2 H vs_rs rs) ∧ (rs = Ow.grows word low width.toNat high) ∧ (guess = Ow.gnum (Ow.grows word low width.toNat high)) ∧ (∀ H', Same H H' → Q (.bl (true)) H')
def sp_law (K : PySem.W.Frag) : Sp := fun vs H Q E => ∃ (script : Addr) (ns : List Int), vs = [.ref script] ∧ SqL K H script (ns.map V.int) ∧ (ns.length ≤ 63) ∧ (∀ H', Same H H' → Q (.bl (true)) H')
section
variable {P : Program} {w : World} {K : PySem.W.Frag} {mg : Str → Option Value} {base : Heap}
theorem ok_l_drawn (T : Tx K mg) : FnOk P w K mg base CX0 1 T.d_l_drawn.f T.d_l_drawn.fd ["_law_cell", "_law_sizes"] (sp_l_drawn T) := by
  refine T.d_l_drawn.F.ok sc_l_drawn (fun vs H Q E h => ?_) (fun cdv A outer s H vs Q E hr h => ?_)
  · obtain ⟨cell, sizes, ms, rfl, _⟩ := h
    rfl
  · obtain ⟨cell, sizes, ms, rfl, c0, c1, c2, kont⟩ := h
    refine ⟨_, (pss_cons (ps_set (i := 2) sc_l_drawn.nd rfl (Or.inl rfl) (pe_lst pa_nil))
        (pss_cons (ps_if (pt_cmpR op_ge (pv 0) (Ow.pe_lit (1000000000000000000) (pe_op op_pow pe_int pe_int)) (nomark _)) (pss_cons (ps_for PassesOwn.never rfl (pi_list (pv 1)) (pg_name (i := 3) sc_l_drawn.nd rfl (Or.inl rfl)) (pss_cons (ps_expr (pe_bm PySem.F.plainAttrs_list PySem.F.slot_list_append PySem.F.type_list_append mt_append (pv 2) (pa_cons (pe_op Ow.op_modN (pv 0) (pv 3)) pa_nil)))
        (pss_one (ps_set (i := 0) sc_l_drawn.nd rfl (Or.inl rfl) (pe_op Ow.op_divN (pv 0) (pv 3))))))
        (pss_one (ps_ret (pv 2)))) pss_nil)
        (pss_cons (ps_set (i := 4) sc_l_drawn.nd rfl (Or.inl rfl) (pe_op Ow.op_modN (pe_op op_add (pe_op Ow.op_mulN (pv 0) pe_int) pe_int) pe_int))
        (pss_cons (ps_set (i := 5) sc_l_drawn.nd rfl (Or.inl rfl) (pe_op Ow.op_modN (pe_op op_add (pe_op Ow.op_mulN (pv 0) pe_int) pe_int) pe_int))
        (pss_cons (ps_set (i := 4) sc_l_drawn.nd rfl (Or.inl rfl) (pe_op Ow.op_modN (pe_op op_add (pe_op op_add (pe_op Ow.op_mulN (pv 4) (pv 4)) (pe_op Ow.op_mulN pe_int (pv 4))) pe_int) pe_int))
        (pss_cons (ps_for PassesOwn.never rfl (pi_list (pv 1)) (pg_name (i := 3) sc_l_drawn.nd rfl (Or.inl rfl)) (pss_cons (ps_set (i := 4) sc_l_drawn.nd rfl (Or.inl rfl) (pe_op Ow.op_modN (pe_op op_add (pe_op op_add (pe_op Ow.op_mulN (pv 4) (pv 4)) (pe_op Ow.op_mulN pe_int (pv 4))) pe_int) pe_int))
        (pss_cons (ps_set (i := 5) sc_l_drawn.nd rfl (Or.inl rfl) (pe_op Ow.op_modN (pe_op op_add (pe_op op_add (pe_op Ow.op_mulN (pv 5) pe_int) (pe_op Ow.op_mulN pe_int (pe_op Ow.op_modN (pv 4) pe_int))) pe_int) pe_int))
        (pss_one (ps_expr (pe_bm PySem.F.plainAttrs_list PySem.F.slot_list_append PySem.F.type_list_append mt_append (pv 2) (pa_cons (pe_op Ow.op_modN (pe_op op_add (pe_op Ow.op_mulN (pv 4) pe_int) (pv 5)) (pv 3)) pa_nil)))))))
        (pss_one (ps_ret (pv 2))))))))), ?_⟩
    refine ⟨by show 0 ≤ sizeLine; decide, fun p h_p => ?_⟩
    refine ⟨_, rfl, ?_⟩
    refine ⟨_, _, rfl, rfl, ⟨by decide, by decide, by decide⟩, ?_⟩
    refine ⟨by decide, ?_⟩
    refine ⟨_, _, rfl, rfl, ?_⟩
    refine ⟨_, rfl, ?_⟩
    refine Ow.ifd (fun h1 => ?_) (fun h1 => ?_)
    · refine ⟨_, rfl, ?_⟩
      refine ⟨_, rfl, ⟨_, (SqL.of (Ow.at_new h_p c0))⟩, ?_⟩
      refine for_list (K := K) (a := sizes) (xs := (ms.map V.int)) (fun ixv σ2 H2 => ∃ (p : Addr) (rs : List Int) (c : Int) (v_3 : Option V) (v_4 : Option V) (v_5 : Option V), σ2 = [some (.int (c)), some (.ref sizes), some (.ref p), v_3, v_4, v_5] ∧ Same H H2 ∧ H2 p = some (.lst (rs.map V.int)) ∧ H p = none ∧ (Ow.Drw rs (List.take ixv ms)) ∧ True) ⟨p, [], cell, _, _, _, rfl, (Ow.same_new h_p), upd_same, h_p, (by first | exact Ow.Drw.nil | assumption), trivial⟩ (fun i σ2 H2 _ hz => ?_) ?_ ?_
      · obtain ⟨p_2, rs, c, _, _, _, rfl, h2, h3, h4, h5, _⟩ := hz
        exact (SqL.of (h2 _ _ c0))
      · rintro i xit _ Hn h6 ⟨p_3, rs_2, c_2, _, _, _, rfl, h7, h8, h9, h10, _⟩
        obtain ⟨l_many, rfl, h_l_many⟩ := Ow.ints_get (xs := ms) h6
        have hm := c1 l_many (List.mem_of_getElem? h_l_many)
        refine ⟨_, rfl, ?_⟩
        refine ⟨.inl ⟨rfl, _, (SqL.of h8)⟩, ?_⟩
        refine ⟨_, rfl, ?_⟩
        refine ⟨_, rfl, ?_⟩
        refine ⟨_, _, rfl, rfl, (by first | assumption | exact Ow.divw64 (by omega) (by omega) | exact Ow.mul0 ⟨by omega, by omega⟩ | exact Ow.mul1 ⟨by omega, by omega⟩ | exact Ow.shl0 (by omega) (by omega) (by omega) | exact ⟨by omega, by omega⟩ | exact ⟨by omega, by omega, by omega⟩ | omega | (simp only [List.length_append, List.length_cons, List.length_nil]; omega) | (subst_vars; omega)), fun r h_r h0_r h1_r => ?_⟩
        refine ⟨_, _, _, rfl, rfl, h8, (Ow.szl (by rw [List.length_map]; have l1 := (by assumption : Ow.Drw _ _).len; rw [List.length_take] at l1; omega)), ?_⟩
        refine ⟨_, rfl, ?_⟩
        refine ⟨_, rfl, ?_⟩
        refine ⟨_, _, rfl, rfl, (by first | assumption | exact Ow.divw64 (by omega) (by omega) | exact Ow.mul0 ⟨by omega, by omega⟩ | exact Ow.mul1 ⟨by omega, by omega⟩ | exact Ow.shl0 (by omega) (by omega) (by omega) | exact ⟨by omega, by omega⟩ | exact ⟨by omega, by omega, by omega⟩ | omega | (simp only [List.length_append, List.length_cons, List.length_nil]; omega) | (subst_vars; omega)), fun l_cell h_l_cell => ?_⟩
        exact ⟨p_3, (rs_2 ++ [r]), l_cell, _, _, _, rfl, (Ow.same_mut h7 h9), (Ow.ap_ints upd_same), h9, (by first | assumption | exact Ow.Drw.turn (by assumption) (by assumption) (by assumption) (by assumption)), trivial⟩
      · rintro _ Hn_2 ⟨p_4, rs_3, c_3, _, _, _, rfl, h11, h12, h13, h14, _⟩
        have hd := Ow.Drw.all h14 rfl
        refine ⟨_, rfl, ?_⟩
        exact kont rs_3 (by exact hd) _ _ h11 h13 h12
    · refine ⟨_, rfl, ?_⟩
      refine ⟨_, _, rfl, rfl, (by first | assumption | exact Ow.divw64 (by omega) (by omega) | exact Ow.mul0 ⟨by omega, by omega⟩ | exact Ow.mul1 ⟨by omega, by omega⟩ | exact Ow.shl0 (by omega) (by omega) (by omega) | exact ⟨by omega, by omega⟩ | exact ⟨by omega, by omega, by omega⟩ | omega | (simp only [List.length_append, List.length_cons, List.length_nil]; omega) | (subst_vars; omega)), fun m h_m => ?_⟩
      refine ⟨_, _, rfl, rfl, ?_⟩
      refine ⟨_, _, rfl, rfl, (by first | assumption | exact Ow.divw64 (by omega) (by omega) | exact Ow.mul0 ⟨by omega, by omega⟩ | exact Ow.mul1 ⟨by omega, by omega⟩ | exact Ow.shl0 (by omega) (by omega) (by omega) | exact ⟨by omega, by omega⟩ | exact ⟨by omega, by omega, by omega⟩ | omega | (simp only [List.length_append, List.length_cons, List.length_nil]; omega) | (subst_vars; omega)), fun l_one h_l_one h0_l_one h1_l_one => ?_⟩
      refine ⟨_, rfl, ?_⟩
      refine ⟨_, _, rfl, rfl, (by first | assumption | exact Ow.divw64 (by omega) (by omega) | exact Ow.mul0 ⟨by omega, by omega⟩ | exact Ow.mul1 ⟨by omega, by omega⟩ | exact Ow.shl0 (by omega) (by omega) (by omega) | exact ⟨by omega, by omega⟩ | exact ⟨by omega, by omega, by omega⟩ | omega | (simp only [List.length_append, List.length_cons, List.length_nil]; omega) | (subst_vars; omega)), fun m_2 h_m_2 => ?_⟩
      refine ⟨_, _, rfl, rfl, ?_⟩
      refine ⟨_, _, rfl, rfl, (by first | assumption | exact Ow.divw64 (by omega) (by omega) | exact Ow.mul0 ⟨by omega, by omega⟩ | exact Ow.mul1 ⟨by omega, by omega⟩ | exact Ow.shl0 (by omega) (by omega) (by omega) | exact ⟨by omega, by omega⟩ | exact ⟨by omega, by omega, by omega⟩ | omega | (simp only [List.length_append, List.length_cons, List.length_nil]; omega) | (subst_vars; omega)), fun l_other h_l_other h0_l_other h1_l_other => ?_⟩
      refine ⟨_, rfl, ?_⟩
      refine ⟨_, rfl, ?_⟩
      refine ⟨_, _, rfl, rfl, (by first | assumption | exact Ow.divw64 (by omega) (by omega) | exact Ow.mul0 ⟨by omega, by omega⟩ | exact Ow.mul1 ⟨by omega, by omega⟩ | exact Ow.shl0 (by omega) (by omega) (by omega) | exact ⟨by omega, by omega⟩ | exact ⟨by omega, by omega, by omega⟩ | omega | (simp only [List.length_append, List.length_cons, List.length_nil]; omega) | (subst_vars; omega)), fun m_3 h_m_3 => ?_⟩
      refine ⟨_, rfl, ?_⟩
      refine ⟨_, _, rfl, rfl, (by first | assumption | exact Ow.divw64 (by omega) (by omega) | exact Ow.mul0 ⟨by omega, by omega⟩ | exact Ow.mul1 ⟨by omega, by omega⟩ | exact Ow.shl0 (by omega) (by omega) (by omega) | exact ⟨by omega, by omega⟩ | exact ⟨by omega, by omega, by omega⟩ | omega | (simp only [List.length_append, List.length_cons, List.length_nil]; omega) | (subst_vars; omega)), fun m_4 h_m_4 => ?_⟩
      refine ⟨_, _, rfl, rfl, ?_⟩
      refine ⟨_, _, rfl, rfl, ?_⟩
      refine ⟨_, _, rfl, rfl, (by first | assumption | exact Ow.divw64 (by omega) (by omega) | exact Ow.mul0 ⟨by omega, by omega⟩ | exact Ow.mul1 ⟨by omega, by omega⟩ | exact Ow.shl0 (by omega) (by omega) (by omega) | exact ⟨by omega, by omega⟩ | exact ⟨by omega, by omega, by omega⟩ | omega | (simp only [List.length_append, List.length_cons, List.length_nil]; omega) | (subst_vars; omega)), fun l_one_2 h_l_one_2 h0_l_one_2 h1_l_one_2 => ?_⟩
      refine ⟨_, rfl, ?_⟩
      refine ⟨_, rfl, ⟨_, (SqL.of (Ow.at_new h_p c0))⟩, ?_⟩
      refine for_list (K := K) (a := sizes) (xs := (ms.map V.int)) (fun ixv σ2 H2 => ∃ (p : Addr) (rs : List Int) (on : Int) (ot : Int) (v_3 : Option V), σ2 = [some (.int (cell)), some (.ref sizes), some (.ref p), v_3, some (.int (on)), some (.int (ot))] ∧ Same H H2 ∧ H2 p = some (.lst (rs.map V.int)) ∧ H p = none ∧ (Ow.Drw rs (List.take ixv ms)) ∧ (0 ≤ on) ∧ (on < 2147483647) ∧ (0 ≤ ot) ∧ (ot < 998244353) ∧ True) ⟨p, [], l_one_2, l_other, _, rfl, (Ow.same_new h_p), upd_same, h_p, (by first | exact Ow.Drw.nil | assumption), (by first | exact Ow.Drw.nil | assumption), (by first | exact Ow.Drw.nil | assumption), (by first | exact Ow.Drw.nil | assumption), (by first | exact Ow.Drw.nil | assumption), trivial⟩ (fun i σ2 H2 _ hz => ?_) ?_ ?_
      · obtain ⟨p_5, rs_4, on, ot, _, rfl, h15, h16, h17, h18, h19, h20, h21, h22, _⟩ := hz
        exact (SqL.of (h15 _ _ c0))
      · rintro i_2 xit _ Hn_3 h23 ⟨p_6, rs_5, on_2, ot_2, _, rfl, h24, h25, h26, h27, h28, h29, h30, h31, _⟩
        obtain ⟨l_many_2, rfl, h_l_many_2⟩ := Ow.ints_get (xs := ms) h23
        have hm := c1 l_many_2 (List.mem_of_getElem? h_l_many_2)
        refine ⟨_, rfl, ?_⟩
        refine ⟨_, rfl, ?_⟩
        refine ⟨_, _, rfl, rfl, (by first | assumption | exact Ow.divw64 (by omega) (by omega) | exact Ow.mul0 ⟨by omega, by omega⟩ | exact Ow.mul1 ⟨by omega, by omega⟩ | exact Ow.shl0 (by omega) (by omega) (by omega) | exact ⟨by omega, by omega⟩ | exact ⟨by omega, by omega, by omega⟩ | omega | (simp only [List.length_append, List.length_cons, List.length_nil]; omega) | (subst_vars; omega)), fun m_5 h_m_5 => ?_⟩
        refine ⟨_, rfl, ?_⟩
        refine ⟨_, _, rfl, rfl, (by first | assumption | exact Ow.divw64 (by omega) (by omega) | exact Ow.mul0 ⟨by omega, by omega⟩ | exact Ow.mul1 ⟨by omega, by omega⟩ | exact Ow.shl0 (by omega) (by omega) (by omega) | exact ⟨by omega, by omega⟩ | exact ⟨by omega, by omega, by omega⟩ | omega | (simp only [List.length_append, List.length_cons, List.length_nil]; omega) | (subst_vars; omega)), fun m_6 h_m_6 => ?_⟩
        refine ⟨_, _, rfl, rfl, ?_⟩
        refine ⟨_, _, rfl, rfl, ?_⟩
        refine ⟨_, _, rfl, rfl, (by first | assumption | exact Ow.divw64 (by omega) (by omega) | exact Ow.mul0 ⟨by omega, by omega⟩ | exact Ow.mul1 ⟨by omega, by omega⟩ | exact Ow.shl0 (by omega) (by omega) (by omega) | exact ⟨by omega, by omega⟩ | exact ⟨by omega, by omega, by omega⟩ | omega | (simp only [List.length_append, List.length_cons, List.length_nil]; omega) | (subst_vars; omega)), fun l_one_3 h_l_one_3 h0_l_one_3 h1_l_one_3 => ?_⟩
        refine ⟨_, rfl, ?_⟩
        refine ⟨_, _, rfl, rfl, (by first | assumption | exact Ow.divw64 (by omega) (by omega) | exact Ow.mul0 ⟨by omega, by omega⟩ | exact Ow.mul1 ⟨by omega, by omega⟩ | exact Ow.shl0 (by omega) (by omega) (by omega) | exact ⟨by omega, by omega⟩ | exact ⟨by omega, by omega, by omega⟩ | omega | (simp only [List.length_append, List.length_cons, List.length_nil]; omega) | (subst_vars; omega)), fun m_7 h_m_7 => ?_⟩
        refine ⟨_, rfl, ?_⟩
        refine ⟨_, _, rfl, rfl, (by first | assumption | exact Ow.divw64 (by omega) (by omega) | exact Ow.mul0 ⟨by omega, by omega⟩ | exact Ow.mul1 ⟨by omega, by omega⟩ | exact Ow.shl0 (by omega) (by omega) (by omega) | exact ⟨by omega, by omega⟩ | exact ⟨by omega, by omega, by omega⟩ | omega | (simp only [List.length_append, List.length_cons, List.length_nil]; omega) | (subst_vars; omega)), fun r_2 h_r_2 h0_r_2 h1_r_2 => ?_⟩
        refine ⟨_, _, rfl, rfl, (by first | assumption | exact Ow.divw64 (by omega) (by omega) | exact Ow.mul0 ⟨by omega, by omega⟩ | exact Ow.mul1 ⟨by omega, by omega⟩ | exact Ow.shl0 (by omega) (by omega) (by omega) | exact ⟨by omega, by omega⟩ | exact ⟨by omega, by omega, by omega⟩ | omega | (simp only [List.length_append, List.length_cons, List.length_nil]; omega) | (subst_vars; omega)), fun m_8 h_m_8 => ?_⟩
        refine ⟨_, _, rfl, rfl, ?_⟩
        refine ⟨_, _, rfl, rfl, ?_⟩
        refine ⟨_, _, rfl, rfl, (by first | assumption | exact Ow.divw64 (by omega) (by omega) | exact Ow.mul0 ⟨by omega, by omega⟩ | exact Ow.mul1 ⟨by omega, by omega⟩ | exact Ow.shl0 (by omega) (by omega) (by omega) | exact ⟨by omega, by omega⟩ | exact ⟨by omega, by omega, by omega⟩ | omega | (simp only [List.length_append, List.length_cons, List.length_nil]; omega) | (subst_vars; omega)), fun l_other_2 h_l_other_2 h0_l_other_2 h1_l_other_2 => ?_⟩
        refine ⟨_, rfl, ?_⟩
        refine ⟨.inl ⟨rfl, _, (SqL.of h25)⟩, ?_⟩
        refine ⟨_, rfl, ?_⟩
        refine ⟨_, _, rfl, rfl, (by first | assumption | exact Ow.divw64 (by omega) (by omega) | exact Ow.mul0 ⟨by omega, by omega⟩ | exact Ow.mul1 ⟨by omega, by omega⟩ | exact Ow.shl0 (by omega) (by omega) (by omega) | exact ⟨by omega, by omega⟩ | exact ⟨by omega, by omega, by omega⟩ | omega | (simp only [List.length_append, List.length_cons, List.length_nil]; omega) | (subst_vars; omega)), fun m_9 h_m_9 => ?_⟩
        refine ⟨_, rfl, ?_⟩
        refine ⟨_, _, rfl, rfl, ?_⟩
        refine ⟨_, rfl, ?_⟩
        refine ⟨_, _, rfl, rfl, (by first | assumption | exact Ow.divw64 (by omega) (by omega) | exact Ow.mul0 ⟨by omega, by omega⟩ | exact Ow.mul1 ⟨by omega, by omega⟩ | exact Ow.shl0 (by omega) (by omega) (by omega) | exact ⟨by omega, by omega⟩ | exact ⟨by omega, by omega, by omega⟩ | omega | (simp only [List.length_append, List.length_cons, List.length_nil]; omega) | (subst_vars; omega)), fun r_3 h_r_3 h0_r_3 h1_r_3 => ?_⟩
        refine ⟨_, _, _, rfl, rfl, h25, (Ow.szl (by rw [List.length_map]; have l1 := (by assumption : Ow.Drw _ _).len; rw [List.length_take] at l1; omega)), ?_⟩
        exact ⟨p_6, (rs_5 ++ [r_3]), l_one_3, l_other_2, _, rfl, (Ow.same_mut h24 h26), (Ow.ap_ints upd_same), h26, (by first | assumption | exact Ow.Drw.turn (by assumption) (by assumption) (by assumption) (by assumption)), (by first | assumption | exact Ow.Drw.turn (by assumption) (by assumption) (by assumption) (by assumption)), (by first | assumption | exact Ow.Drw.turn (by assumption) (by assumption) (by assumption) (by assumption)), (by first | assumption | exact Ow.Drw.turn (by assumption) (by assumption) (by assumption) (by assumption)), (by first | assumption | exact Ow.Drw.turn (by assumption) (by assumption) (by assumption) (by assumption)), trivial⟩
      · rintro _ Hn_4 ⟨p_7, rs_6, on_3, ot_3, _, rfl, h32, h33, h34, h35, h36, h37, h38, h39, _⟩
        have hd := Ow.Drw.all h35 rfl
        refine ⟨_, rfl, ?_⟩
        exact kont rs_6 (by exact hd) _ _ h32 h34 h33
theorem ok_l_case (T : Tx K mg) : FnOk P w K mg base CX0 2 T.d_l_case.f T.d_l_case.fd ["_law_cell"] (sp_l_case T) := by
  refine T.d_l_case.F.ok sc_l_case (fun vs H Q E h => ?_) (fun cdv A outer s H vs Q E hr h => ?_)
  · obtain ⟨cell, rfl, _⟩ := h
    rfl
  · obtain ⟨cell, rfl, kont⟩ := h
    refine ⟨_, (pss_cons (ps_set (i := 1) sc_l_case.nd rfl (Or.inl rfl) (pe_call (Ow.ok_l_drawn T) (hr.mono (by decide : 1 ≤ 1)) (by rfl) T.d_l_drawn.m T.d_l_drawn.F.kp T.d_l_drawn.b .nil pass0 (pa_cons (pv 0) (pa_cons (pe_lst (pa_cons pe_int (pa_cons pe_int (pa_cons (Ow.pe_lit (4294967296) (pe_op op_shl pe_int pe_int)) (pa_cons pe_int (pa_cons (Ow.pe_lit (4294967296) (pe_op op_shl pe_int pe_int)) (pa_cons pe_int (pa_cons (Ow.pe_lit (4294967296) (pe_op op_shl pe_int pe_int)) (pa_cons pe_int pa_nil))))))))) pa_nil))))
        (pss_cons (ps_set (i := 2) sc_l_case.nd rfl (Or.inl rfl) (Ow.pe_nmi (pe_op op_add pe_int (pe_ix ix_list (pv 1) pe_int (fun _ _ => rfl)))))
        (pss_cons (ps_set (i := 3) sc_l_case.nd rfl (Or.inl rfl) (pe_op Ow.op_shl1 pe_int (pv 2)))
        (pss_cons (ps_set (i := 4) sc_l_case.nd rfl (Or.inl rfl) (pe_op Ow.op_divN (pv 3) pe_int))
        (pss_cons (ps_set (i := 5) sc_l_case.nd rfl (Or.inl rfl) (Ow.pe_nmi (pe_ifExp (pt_cmpR op_lt (pe_ix ix_list (pv 1) pe_int (fun _ _ => rfl)) pe_int (nomark _)) (pe_ix ix_list (pe_lst (pa_cons (pv 4) (pa_cons (pe_op op_sub (pv 3) pe_int) (pa_cons (pe_op op_add (pv 4) pe_int) (pa_cons (pe_op op_sub (pv 3) pe_int) pa_nil))))) (pe_ix ix_list (pv 1) pe_int (fun _ _ => rfl)) (fun _ _ => rfl)) (pe_op op_add (pv 4) (pe_op Ow.op_modN (pe_ix ix_list (pv 1) pe_int (fun _ _ => rfl)) (pv 4))))))
        (pss_cons (ps_set (i := 6) sc_l_case.nd rfl (Or.inl rfl) (Ow.pe_nmi (pe_ifExp (pt_cmpR op_lt (pe_ix ix_list (pv 1) pe_int (fun _ _ => rfl)) pe_int (nomark _)) (pe_ix ix_list (pe_lst (pa_cons (pv 5) (pa_cons (pe_op op_sub (pv 5) pe_int) (pa_cons pe_int (pa_cons pe_int pa_nil))))) (pe_ix ix_list (pv 1) pe_int (fun _ _ => rfl)) (fun _ _ => rfl)) (pe_op Ow.op_modN (pe_ix ix_list (pv 1) pe_int (fun _ _ => rfl)) (pe_op op_add (pv 5) pe_int)))))
        (pss_cons (ps_set (i := 7) sc_l_case.nd rfl (Or.inl rfl) (Ow.pe_nmi (pe_ifExp (pt_cmpR op_lt (pe_ix ix_list (pv 1) pe_int (fun _ _ => rfl)) pe_int (nomark _)) (pe_ix ix_list (pe_lst (pa_cons pe_int (pa_cons (pe_op op_sub (pv 3) pe_int) (pa_cons (pv 4) (pa_cons pe_int pa_nil))))) (pe_ix ix_list (pv 1) pe_int (fun _ _ => rfl)) (fun _ _ => rfl)) (pe_op Ow.op_modN (pe_ix ix_list (pv 1) pe_int (fun _ _ => rfl)) (pv 3)))))
        (pss_one (ps_ret (pe_tup (pa_cons (pv 2) (pa_cons (pv 6) (pa_cons (pv 7) (pa_cons (pv 5) (pa_cons (pe_ix ix_list (pv 1) pe_int (fun _ _ => rfl)) pa_nil))))))))))))))), ?_⟩
    refine ⟨_, rfl, ?_⟩
    refine ⟨_, _, rfl, rfl, ⟨by decide, by decide, by decide⟩, ?_⟩
    refine ⟨by decide, ?_⟩
    refine ⟨_, _, rfl, rfl, ⟨by decide, by decide, by decide⟩, ?_⟩
    refine ⟨by decide, ?_⟩
    refine ⟨_, _, rfl, rfl, ⟨by decide, by decide, by decide⟩, ?_⟩
    refine ⟨by decide, ?_⟩
    refine ⟨by show 8 ≤ sizeLine; decide, fun p h_p => ?_⟩
    refine ⟨_, _, ([29, 8, 4294967296, 8, 4294967296, 8, 4294967296, 2]), rfl, upd_same, (by first | (intro m hm; simp only [List.mem_cons, List.not_mem_nil, or_false] at hm; omega) | (simp only [List.length_cons, List.length_nil]; omega)), (by first | (intro m hm; simp only [List.mem_cons, List.not_mem_nil, or_false] at hm; omega) | (simp only [List.length_cons, List.length_nil]; omega)), fun rs h1 p_2 Hn h2 h3 h4 => ?_⟩
    refine ⟨_, rfl, ?_⟩
    refine Ow.cc ?_
    refine Ow.ixd (j := 0) (m := 29) (SqL.of h4) h1 rfl (fun it h_it b_it => ?_)
    refine ⟨_, _, rfl, rfl, ?_⟩
    refine ⟨_, rfl, fun l_width h_l_width => ?_⟩
    have z_l_width : Ow.Sz 6 l_width := by rw [h_l_width]; exact (Ow.Sz.add (Ow.Sz.mono (Ow.Sz.lit (n := 3) (i := 4) (by decide)) (by decide : 3 ≤ 5)) (Ow.Sz.rng (n := 5) b_it.1 b_it.2 (by decide)))
    refine ⟨_, rfl, ?_⟩
    refine ⟨_, rfl, rfl, (by first | assumption | exact Ow.divw64 (by omega) (by omega) | exact Ow.mul0 ⟨by omega, by omega⟩ | exact Ow.mul1 ⟨by omega, by omega⟩ | exact Ow.shl0 (by omega) (by omega) (by omega) | exact ⟨by omega, by omega⟩ | exact ⟨by omega, by omega, by omega⟩ | omega | (simp only [List.length_append, List.length_cons, List.length_nil]; omega) | (subst_vars; omega)), fun l_big h_l_big h0_l_big => ?_⟩
    have e1 := Ow.pow2_pred (w := l_width) (by omega)
    have e2 := Ow.pow2_mono (a := 3) (b := (l_width - 1).toNat) (by omega)
    have e3 := Ow.pow2_le32 (w := l_width) (by omega)
    refine ⟨_, rfl, ?_⟩
    refine ⟨_, _, rfl, rfl, (by first | assumption | exact Ow.divw64 (by omega) (by omega) | exact Ow.mul0 ⟨by omega, by omega⟩ | exact Ow.mul1 ⟨by omega, by omega⟩ | exact Ow.shl0 (by omega) (by omega) (by omega) | exact ⟨by omega, by omega⟩ | exact ⟨by omega, by omega, by omega⟩ | omega | (simp only [List.length_append, List.length_cons, List.length_nil]; omega) | (subst_vars; omega)), fun l_half h_l_half => ?_⟩
    refine ⟨_, rfl, ?_⟩
    refine Ow.cc ?_
    refine Ow.ixd (j := 1) (m := 8) (SqL.of h4) h1 rfl (fun it_2 h_it_2 b_it_2 => ?_)
    refine ⟨_, _, rfl, rfl, ?_⟩
    refine ⟨_, rfl, ?_⟩
    refine Ow.ifd (fun h5 => ?_) (fun h5 => ?_)
    · refine ⟨_, rfl, ?_⟩
      refine ⟨_, rfl, ?_⟩
      refine ⟨_, _, rfl, rfl, ?_⟩
      refine ⟨_, rfl, ?_⟩
      refine ⟨_, _, rfl, rfl, ?_⟩
      refine ⟨_, rfl, ?_⟩
      refine ⟨_, _, rfl, rfl, ?_⟩
      refine ⟨by show 4 ≤ sizeLine; decide, fun p_3 h_p_3 => ?_⟩
      refine ⟨_, rfl, ?_⟩
      refine Ow.cc ?_
      refine Ow.ixd (j := 1) (m := 8) (SqL.of (Ow.at_new h_p_3 h4)) h1 rfl (fun it_3 h_it_3 b_it_3 => ?_)
      obtain rfl : it_2 = it_3 := Option.some.inj (h_it_2.symm.trans h_it_3)
      refine Ow.ixi4 (SqL.of upd_same) (by first | assumption | exact Ow.divw64 (by omega) (by omega) | exact Ow.mul0 ⟨by omega, by omega⟩ | exact Ow.mul1 ⟨by omega, by omega⟩ | exact Ow.shl0 (by omega) (by omega) (by omega) | exact ⟨by omega, by omega⟩ | exact ⟨by omega, by omega, by omega⟩ | omega | (simp only [List.length_append, List.length_cons, List.length_nil]; omega) | (subst_vars; omega)) (fun it_4 h_it_4 => ?_)
      refine ⟨_, rfl, fun l_word h_l_word => ?_⟩
      refine ⟨_, rfl, ?_⟩
      refine Ow.cc ?_
      refine Ow.ixd (j := 3) (m := 8) (SqL.of (Ow.at_new h_p_3 h4)) h1 rfl (fun it_5 h_it_5 b_it_5 => ?_)
      refine ⟨_, _, rfl, rfl, ?_⟩
      refine ⟨_, rfl, ?_⟩
      refine Ow.ifd (fun h6 => ?_) (fun h6 => ?_)
      · refine ⟨_, rfl, ?_⟩
        refine ⟨_, rfl, ?_⟩
        refine ⟨_, _, rfl, rfl, ?_⟩
        refine ⟨by show 4 ≤ sizeLine; decide, fun p_4 h_p_4 => ?_⟩
        refine ⟨_, rfl, ?_⟩
        refine Ow.cc ?_
        refine Ow.ixd (j := 3) (m := 8) (SqL.of (Ow.at_new h_p_4 (Ow.at_new h_p_3 h4))) h1 rfl (fun it_6 h_it_6 b_it_6 => ?_)
        obtain rfl : it_5 = it_6 := Option.some.inj (h_it_5.symm.trans h_it_6)
        refine Ow.ixi4 (SqL.of upd_same) (by first | assumption | exact Ow.divw64 (by omega) (by omega) | exact Ow.mul0 ⟨by omega, by omega⟩ | exact Ow.mul1 ⟨by omega, by omega⟩ | exact Ow.shl0 (by omega) (by omega) (by omega) | exact ⟨by omega, by omega⟩ | exact ⟨by omega, by omega, by omega⟩ | omega | (simp only [List.length_append, List.length_cons, List.length_nil]; omega) | (subst_vars; omega)) (fun it_7 h_it_7 => ?_)
        refine ⟨_, rfl, fun l_high h_l_high => ?_⟩
        refine ⟨_, rfl, ?_⟩
        refine Ow.cc ?_
        refine Ow.ixd (j := 5) (m := 8) (SqL.of (Ow.at_new h_p_4 (Ow.at_new h_p_3 h4))) h1 rfl (fun it_8 h_it_8 b_it_8 => ?_)
        refine ⟨_, _, rfl, rfl, ?_⟩
        refine ⟨_, rfl, ?_⟩
        refine Ow.ifd (fun h7 => ?_) (fun h7 => ?_)
        · refine ⟨_, rfl, ?_⟩
          refine ⟨_, _, rfl, rfl, ?_⟩
          refine ⟨_, rfl, ?_⟩
          refine ⟨by show 4 ≤ sizeLine; decide, fun p_5 h_p_5 => ?_⟩
          refine ⟨_, rfl, ?_⟩
          refine Ow.cc ?_
          refine Ow.ixd (j := 5) (m := 8) (SqL.of (Ow.at_new h_p_5 (Ow.at_new h_p_4 (Ow.at_new h_p_3 h4)))) h1 rfl (fun it_9 h_it_9 b_it_9 => ?_)
          obtain rfl : it_8 = it_9 := Option.some.inj (h_it_8.symm.trans h_it_9)
          refine Ow.ixi4 (SqL.of upd_same) (by first | assumption | exact Ow.divw64 (by omega) (by omega) | exact Ow.mul0 ⟨by omega, by omega⟩ | exact Ow.mul1 ⟨by omega, by omega⟩ | exact Ow.shl0 (by omega) (by omega) (by omega) | exact ⟨by omega, by omega⟩ | exact ⟨by omega, by omega, by omega⟩ | omega | (simp only [List.length_append, List.length_cons, List.length_nil]; omega) | (subst_vars; omega)) (fun it_10 h_it_10 => ?_)
          refine ⟨_, rfl, fun l_low h_l_low => ?_⟩
          refine ⟨_, rfl, ?_⟩
          refine ⟨_, rfl, ?_⟩
          refine ⟨_, rfl, ?_⟩
          refine ⟨_, rfl, ?_⟩
          refine ⟨_, rfl, ?_⟩
          refine Ow.cc ?_
          refine Ow.ixd (j := 7) (m := 2) (SqL.of (Ow.at_new h_p_5 (Ow.at_new h_p_4 (Ow.at_new h_p_3 h4)))) h1 rfl (fun it_11 h_it_11 b_it_11 => ?_)
          refine ⟨by show 5 ≤ sizeLine; decide, fun p_6 h_p_6 => ?_⟩
          exact kont l_width l_high l_low l_word it_11 (by first | assumption | exact Ow.divw64 (by omega) (by omega) | exact Ow.mul0 ⟨by omega, by omega⟩ | exact Ow.mul1 ⟨by omega, by omega⟩ | exact Ow.shl0 (by omega) (by omega) (by omega) | exact ⟨by omega, by omega⟩ | exact ⟨by omega, by omega, by omega⟩ | omega | (simp only [List.length_append, List.length_cons, List.length_nil]; omega) | (subst_vars; omega)) (by first | assumption | exact Ow.divw64 (by omega) (by omega) | exact Ow.mul0 ⟨by omega, by omega⟩ | exact Ow.mul1 ⟨by omega, by omega⟩ | exact Ow.shl0 (by omega) (by omega) (by omega) | exact ⟨by omega, by omega⟩ | exact ⟨by omega, by omega, by omega⟩ | omega | (simp only [List.length_append, List.length_cons, List.length_nil]; omega) | (subst_vars; omega)) (by first | assumption | exact Ow.divw64 (by omega) (by omega) | exact Ow.mul0 ⟨by omega, by omega⟩ | exact Ow.mul1 ⟨by omega, by omega⟩ | exact Ow.shl0 (by omega) (by omega) (by omega) | exact ⟨by omega, by omega⟩ | exact ⟨by omega, by omega, by omega⟩ | omega | (simp only [List.length_append, List.length_cons, List.length_nil]; omega) | (subst_vars; omega)) (by first | assumption | exact Ow.divw64 (by omega) (by omega) | exact Ow.mul0 ⟨by omega, by omega⟩ | exact Ow.mul1 ⟨by omega, by omega⟩ | exact Ow.shl0 (by omega) (by omega) (by omega) | exact ⟨by omega, by omega⟩ | exact ⟨by omega, by omega, by omega⟩ | omega | (simp only [List.length_append, List.length_cons, List.length_nil]; omega) | (subst_vars; omega)) (by first | assumption | exact Ow.divw64 (by omega) (by omega) | exact Ow.mul0 ⟨by omega, by omega⟩ | exact Ow.mul1 ⟨by omega, by omega⟩ | exact Ow.shl0 (by omega) (by omega) (by omega) | exact ⟨by omega, by omega⟩ | exact ⟨by omega, by omega, by omega⟩ | omega | (simp only [List.length_append, List.length_cons, List.length_nil]; omega) | (subst_vars; omega)) (by first | assumption | exact Ow.divw64 (by omega) (by omega) | exact Ow.mul0 ⟨by omega, by omega⟩ | exact Ow.mul1 ⟨by omega, by omega⟩ | exact Ow.shl0 (by omega) (by omega) (by omega) | exact ⟨by omega, by omega⟩ | exact ⟨by omega, by omega, by omega⟩ | omega | (simp only [List.length_append, List.length_cons, List.length_nil]; omega) | (subst_vars; omega)) (by first | assumption | exact Ow.divw64 (by omega) (by omega) | exact Ow.mul0 ⟨by omega, by omega⟩ | exact Ow.mul1 ⟨by omega, by omega⟩ | exact Ow.shl0 (by omega) (by omega) (by omega) | exact ⟨by omega, by omega⟩ | exact ⟨by omega, by omega, by omega⟩ | omega | (simp only [List.length_append, List.length_cons, List.length_nil]; omega) | (subst_vars; omega)) (by first | assumption | exact Ow.divw64 (by omega) (by omega) | exact Ow.mul0 ⟨by omega, by omega⟩ | exact Ow.mul1 ⟨by omega, by omega⟩ | exact Ow.shl0 (by omega) (by omega) (by omega) | exact ⟨by omega, by omega⟩ | exact ⟨by omega, by omega, by omega⟩ | omega | (simp only [List.length_append, List.length_cons, List.length_nil]; omega) | (subst_vars; omega)) _ _ ((((((Ow.same_new h_p).trans h2).trans (Ow.same_new h_p_3)).trans (Ow.same_new h_p_4)).trans (Ow.same_new h_p_5)).trans (Ow.same_new h_p_6)) (Same.free (((((Ow.same_new h_p).trans h2).trans (Ow.same_new h_p_3)).trans (Ow.same_new h_p_4)).trans (Ow.same_new h_p_5)) h_p_6) upd_same
        · refine ⟨_, rfl, ?_⟩
          refine Ow.cc ?_
          refine Ow.ixd (j := 6) (m := 4294967296) (SqL.of (Ow.at_new h_p_4 (Ow.at_new h_p_3 h4))) h1 rfl (fun it_12 h_it_12 b_it_12 => ?_)
          refine ⟨_, rfl, ?_⟩
          refine ⟨_, _, rfl, rfl, (by first | assumption | exact Ow.divw64 (by omega) (by omega) | exact Ow.mul0 ⟨by omega, by omega⟩ | exact Ow.mul1 ⟨by omega, by omega⟩ | exact Ow.shl0 (by omega) (by omega) (by omega) | exact ⟨by omega, by omega⟩ | exact ⟨by omega, by omega, by omega⟩ | omega | (simp only [List.length_append, List.length_cons, List.length_nil]; omega) | (subst_vars; omega)), fun l_low_2 h_l_low_2 h0_l_low_2 h1_l_low_2 => ?_⟩
          refine ⟨_, rfl, fun l_low_3 h_l_low_3 => ?_⟩
          refine ⟨_, rfl, ?_⟩
          refine ⟨_, rfl, ?_⟩
          refine ⟨_, rfl, ?_⟩
          refine ⟨_, rfl, ?_⟩
          refine ⟨_, rfl, ?_⟩
          refine Ow.cc ?_
          refine Ow.ixd (j := 7) (m := 2) (SqL.of (Ow.at_new h_p_4 (Ow.at_new h_p_3 h4))) h1 rfl (fun it_13 h_it_13 b_it_13 => ?_)
          refine ⟨by show 5 ≤ sizeLine; decide, fun p_7 h_p_7 => ?_⟩
          exact kont l_width l_high l_low_3 l_word it_13 (by first | assumption | exact Ow.divw64 (by omega) (by omega) | exact Ow.mul0 ⟨by omega, by omega⟩ | exact Ow.mul1 ⟨by omega, by omega⟩ | exact Ow.shl0 (by omega) (by omega) (by omega) | exact ⟨by omega, by omega⟩ | exact ⟨by omega, by omega, by omega⟩ | omega | (simp only [List.length_append, List.length_cons, List.length_nil]; omega) | (subst_vars; omega)) (by first | assumption | exact Ow.divw64 (by omega) (by omega) | exact Ow.mul0 ⟨by omega, by omega⟩ | exact Ow.mul1 ⟨by omega, by omega⟩ | exact Ow.shl0 (by omega) (by omega) (by omega) | exact ⟨by omega, by omega⟩ | exact ⟨by omega, by omega, by omega⟩ | omega | (simp only [List.length_append, List.length_cons, List.length_nil]; omega) | (subst_vars; omega)) (by first | assumption | exact Ow.divw64 (by omega) (by omega) | exact Ow.mul0 ⟨by omega, by omega⟩ | exact Ow.mul1 ⟨by omega, by omega⟩ | exact Ow.shl0 (by omega) (by omega) (by omega) | exact ⟨by omega, by omega⟩ | exact ⟨by omega, by omega, by omega⟩ | omega | (simp only [List.length_append, List.length_cons, List.length_nil]; omega) | (subst_vars; omega)) (by first | assumption | exact Ow.divw64 (by omega) (by omega) | exact Ow.mul0 ⟨by omega, by omega⟩ | exact Ow.mul1 ⟨by omega, by omega⟩ | exact Ow.shl0 (by omega) (by omega) (by omega) | exact ⟨by omega, by omega⟩ | exact ⟨by omega, by omega, by omega⟩ | omega | (simp only [List.length_append, List.length_cons, List.length_nil]; omega) | (subst_vars; omega)) (by first | assumption | exact Ow.divw64 (by omega) (by omega) | exact Ow.mul0 ⟨by omega, by omega⟩ | exact Ow.mul1 ⟨by omega, by omega⟩ | exact Ow.shl0 (by omega) (by omega) (by omega) | exact ⟨by omega, by omega⟩ | exact ⟨by omega, by omega, by omega⟩ | omega | (simp only [List.length_append, List.length_cons, List.length_nil]; omega) | (subst_vars; omega)) (by first | assumption | exact Ow.divw64 (by omega) (by omega) | exact Ow.mul0 ⟨by omega, by omega⟩ | exact Ow.mul1 ⟨by omega, by omega⟩ | exact Ow.shl0 (by omega) (by omega) (by omega) | exact ⟨by omega, by omega⟩ | exact ⟨by omega, by omega, by omega⟩ | omega | (simp only [List.length_append, List.length_cons, List.length_nil]; omega) | (subst_vars; omega)) (by first | assumption | exact Ow.divw64 (by omega) (by omega) | exact Ow.mul0 ⟨by omega, by omega⟩ | exact Ow.mul1 ⟨by omega, by omega⟩ | exact Ow.shl0 (by omega) (by omega) (by omega) | exact ⟨by omega, by omega⟩ | exact ⟨by omega, by omega, by omega⟩ | omega | (simp only [List.length_append, List.length_cons, List.length_nil]; omega) | (subst_vars; omega)) (by first | assumption | exact Ow.divw64 (by omega) (by omega) | exact Ow.mul0 ⟨by omega, by omega⟩ | exact Ow.mul1 ⟨by omega, by omega⟩ | exact Ow.shl0 (by omega) (by omega) (by omega) | exact ⟨by omega, by omega⟩ | exact ⟨by omega, by omega, by omega⟩ | omega | (simp only [List.length_append, List.length_cons, List.length_nil]; omega) | (subst_vars; omega)) _ _ (((((Ow.same_new h_p).trans h2).trans (Ow.same_new h_p_3)).trans (Ow.same_new h_p_4)).trans (Ow.same_new h_p_7)) (Same.free ((((Ow.same_new h_p).trans h2).trans (Ow.same_new h_p_3)).trans (Ow.same_new h_p_4)) h_p_7) upd_same
      · refine ⟨_, rfl, ?_⟩
        refine Ow.cc ?_
        refine Ow.ixd (j := 4) (m := 4294967296) (SqL.of (Ow.at_new h_p_3 h4)) h1 rfl (fun it_14 h_it_14 b_it_14 => ?_)
        refine ⟨_, rfl, ?_⟩
        refine ⟨_, _, rfl, rfl, ?_⟩
        refine ⟨_, _, rfl, rfl, (by first | assumption | exact Ow.divw64 (by omega) (by omega) | exact Ow.mul0 ⟨by omega, by omega⟩ | exact Ow.mul1 ⟨by omega, by omega⟩ | exact Ow.shl0 (by omega) (by omega) (by omega) | exact ⟨by omega, by omega⟩ | exact ⟨by omega, by omega, by omega⟩ | omega | (simp only [List.length_append, List.length_cons, List.length_nil]; omega) | (subst_vars; omega)), fun l_high_2 h_l_high_2 h0_l_high_2 h1_l_high_2 => ?_⟩
        refine ⟨_, rfl, fun l_high_3 h_l_high_3 => ?_⟩
        refine ⟨_, rfl, ?_⟩
        refine Ow.cc ?_
        refine Ow.ixd (j := 5) (m := 8) (SqL.of (Ow.at_new h_p_3 h4)) h1 rfl (fun it_15 h_it_15 b_it_15 => ?_)
        refine ⟨_, _, rfl, rfl, ?_⟩
        refine ⟨_, rfl, ?_⟩
        refine Ow.ifd (fun h8 => ?_) (fun h8 => ?_)
        · refine ⟨_, rfl, ?_⟩
          refine ⟨_, _, rfl, rfl, ?_⟩
          refine ⟨_, rfl, ?_⟩
          refine ⟨by show 4 ≤ sizeLine; decide, fun p_8 h_p_8 => ?_⟩
          refine ⟨_, rfl, ?_⟩
          refine Ow.cc ?_
          refine Ow.ixd (j := 5) (m := 8) (SqL.of (Ow.at_new h_p_8 (Ow.at_new h_p_3 h4))) h1 rfl (fun it_16 h_it_16 b_it_16 => ?_)
          obtain rfl : it_15 = it_16 := Option.some.inj (h_it_15.symm.trans h_it_16)
          refine Ow.ixi4 (SqL.of upd_same) (by first | assumption | exact Ow.divw64 (by omega) (by omega) | exact Ow.mul0 ⟨by omega, by omega⟩ | exact Ow.mul1 ⟨by omega, by omega⟩ | exact Ow.shl0 (by omega) (by omega) (by omega) | exact ⟨by omega, by omega⟩ | exact ⟨by omega, by omega, by omega⟩ | omega | (simp only [List.length_append, List.length_cons, List.length_nil]; omega) | (subst_vars; omega)) (fun it_17 h_it_17 => ?_)
          refine ⟨_, rfl, fun l_low_4 h_l_low_4 => ?_⟩
          refine ⟨_, rfl, ?_⟩
          refine ⟨_, rfl, ?_⟩
          refine ⟨_, rfl, ?_⟩
          refine ⟨_, rfl, ?_⟩
          refine ⟨_, rfl, ?_⟩
          refine Ow.cc ?_
          refine Ow.ixd (j := 7) (m := 2) (SqL.of (Ow.at_new h_p_8 (Ow.at_new h_p_3 h4))) h1 rfl (fun it_18 h_it_18 b_it_18 => ?_)
          refine ⟨by show 5 ≤ sizeLine; decide, fun p_9 h_p_9 => ?_⟩
          exact kont l_width l_high_3 l_low_4 l_word it_18 (by first | assumption | exact Ow.divw64 (by omega) (by omega) | exact Ow.mul0 ⟨by omega, by omega⟩ | exact Ow.mul1 ⟨by omega, by omega⟩ | exact Ow.shl0 (by omega) (by omega) (by omega) | exact ⟨by omega, by omega⟩ | exact ⟨by omega, by omega, by omega⟩ | omega | (simp only [List.length_append, List.length_cons, List.length_nil]; omega) | (subst_vars; omega)) (by first | assumption | exact Ow.divw64 (by omega) (by omega) | exact Ow.mul0 ⟨by omega, by omega⟩ | exact Ow.mul1 ⟨by omega, by omega⟩ | exact Ow.shl0 (by omega) (by omega) (by omega) | exact ⟨by omega, by omega⟩ | exact ⟨by omega, by omega, by omega⟩ | omega | (simp only [List.length_append, List.length_cons, List.length_nil]; omega) | (subst_vars; omega)) (by first | assumption | exact Ow.divw64 (by omega) (by omega) | exact Ow.mul0 ⟨by omega, by omega⟩ | exact Ow.mul1 ⟨by omega, by omega⟩ | exact Ow.shl0 (by omega) (by omega) (by omega) | exact ⟨by omega, by omega⟩ | exact ⟨by omega, by omega, by omega⟩ | omega | (simp only [List.length_append, List.length_cons, List.length_nil]; omega) | (subst_vars; omega)) (by first | assumption | exact Ow.divw64 (by omega) (by omega) | exact Ow.mul0 ⟨by omega, by omega⟩ | exact Ow.mul1 ⟨by omega, by omega⟩ | exact Ow.shl0 (by omega) (by omega) (by omega) | exact ⟨by omega, by omega⟩ | exact ⟨by omega, by omega, by omega⟩ | omega | (simp only [List.length_append, List.length_cons, List.length_nil]; omega) | (subst_vars; omega)) (by first | assumption | exact Ow.divw64 (by omega) (by omega) | exact Ow.mul0 ⟨by omega, by omega⟩ | exact Ow.mul1 ⟨by omega, by omega⟩ | exact Ow.shl0 (by omega) (by omega) (by omega) | exact ⟨by omega, by omega⟩ | exact ⟨by omega, by omega, by omega⟩ | omega | (simp only [List.length_append, List.length_cons, List.length_nil]; omega) | (subst_vars; omega)) (by first | assumption | exact Ow.divw64 (by omega) (by omega) | exact Ow.mul0 ⟨by omega, by omega⟩ | exact Ow.mul1 ⟨by omega, by omega⟩ | exact Ow.shl0 (by omega) (by omega) (by omega) | exact ⟨by omega, by omega⟩ | exact ⟨by omega, by omega, by omega⟩ | omega | (simp only [List.length_append, List.length_cons, List.length_nil]; omega) | (subst_vars; omega)) (by first | assumption | exact Ow.divw64 (by omega) (by omega) | exact Ow.mul0 ⟨by omega, by omega⟩ | exact Ow.mul1 ⟨by omega, by omega⟩ | exact Ow.shl0 (by omega) (by omega) (by omega) | exact ⟨by omega, by omega⟩ | exact ⟨by omega, by omega, by omega⟩ | omega | (simp only [List.length_append, List.length_cons, List.length_nil]; omega) | (subst_vars; omega)) (by first | assumption | exact Ow.divw64 (by omega) (by omega) | exact Ow.mul0 ⟨by omega, by omega⟩ | exact Ow.mul1 ⟨by omega, by omega⟩ | exact Ow.shl0 (by omega) (by omega) (by omega) | exact ⟨by omega, by omega⟩ | exact ⟨by omega, by omega, by omega⟩ | omega | (simp only [List.length_append, List.length_cons, List.length_nil]; omega) | (subst_vars; omega)) _ _ (((((Ow.same_new h_p).trans h2).trans (Ow.same_new h_p_3)).trans (Ow.same_new h_p_8)).trans (Ow.same_new h_p_9)) (Same.free ((((Ow.same_new h_p).trans h2).trans (Ow.same_new h_p_3)).trans (Ow.same_new h_p_8)) h_p_9) upd_same
        · refine ⟨_, rfl, ?_⟩
          refine Ow.cc ?_
          refine Ow.ixd (j := 6) (m := 4294967296) (SqL.of (Ow.at_new h_p_3 h4)) h1 rfl (fun it_19 h_it_19 b_it_19 => ?_)
          refine ⟨_, rfl, ?_⟩
          refine ⟨_, _, rfl, rfl, (by first | assumption | exact Ow.divw64 (by omega) (by omega) | exact Ow.mul0 ⟨by omega, by omega⟩ | exact Ow.mul1 ⟨by omega, by omega⟩ | exact Ow.shl0 (by omega) (by omega) (by omega) | exact ⟨by omega, by omega⟩ | exact ⟨by omega, by omega, by omega⟩ | omega | (simp only [List.length_append, List.length_cons, List.length_nil]; omega) | (subst_vars; omega)), fun l_low_5 h_l_low_5 h0_l_low_5 h1_l_low_5 => ?_⟩
          refine ⟨_, rfl, fun l_low_6 h_l_low_6 => ?_⟩
          refine ⟨_, rfl, ?_⟩
          refine ⟨_, rfl, ?_⟩
          refine ⟨_, rfl, ?_⟩
          refine ⟨_, rfl, ?_⟩
          refine ⟨_, rfl, ?_⟩
          refine Ow.cc ?_
          refine Ow.ixd (j := 7) (m := 2) (SqL.of (Ow.at_new h_p_3 h4)) h1 rfl (fun it_20 h_it_20 b_it_20 => ?_)
          refine ⟨by show 5 ≤ sizeLine; decide, fun p_10 h_p_10 => ?_⟩
          exact kont l_width l_high_3 l_low_6 l_word it_20 (by first | assumption | exact Ow.divw64 (by omega) (by omega) | exact Ow.mul0 ⟨by omega, by omega⟩ | exact Ow.mul1 ⟨by omega, by omega⟩ | exact Ow.shl0 (by omega) (by omega) (by omega) | exact ⟨by omega, by omega⟩ | exact ⟨by omega, by omega, by omega⟩ | omega | (simp only [List.length_append, List.length_cons, List.length_nil]; omega) | (subst_vars; omega)) (by first | assumption | exact Ow.divw64 (by omega) (by omega) | exact Ow.mul0 ⟨by omega, by omega⟩ | exact Ow.mul1 ⟨by omega, by omega⟩ | exact Ow.shl0 (by omega) (by omega) (by omega) | exact ⟨by omega, by omega⟩ | exact ⟨by omega, by omega, by omega⟩ | omega | (simp only [List.length_append, List.length_cons, List.length_nil]; omega) | (subst_vars; omega)) (by first | assumption | exact Ow.divw64 (by omega) (by omega) | exact Ow.mul0 ⟨by omega, by omega⟩ | exact Ow.mul1 ⟨by omega, by omega⟩ | exact Ow.shl0 (by omega) (by omega) (by omega) | exact ⟨by omega, by omega⟩ | exact ⟨by omega, by omega, by omega⟩ | omega | (simp only [List.length_append, List.length_cons, List.length_nil]; omega) | (subst_vars; omega)) (by first | assumption | exact Ow.divw64 (by omega) (by omega) | exact Ow.mul0 ⟨by omega, by omega⟩ | exact Ow.mul1 ⟨by omega, by omega⟩ | exact Ow.shl0 (by omega) (by omega) (by omega) | exact ⟨by omega, by omega⟩ | exact ⟨by omega, by omega, by omega⟩ | omega | (simp only [List.length_append, List.length_cons, List.length_nil]; omega) | (subst_vars; omega)) (by first | assumption | exact Ow.divw64 (by omega) (by omega) | exact Ow.mul0 ⟨by omega, by omega⟩ | exact Ow.mul1 ⟨by omega, by omega⟩ | exact Ow.shl0 (by omega) (by omega) (by omega) | exact ⟨by omega, by omega⟩ | exact ⟨by omega, by omega, by omega⟩ | omega | (simp only [List.length_append, List.length_cons, List.length_nil]; omega) | (subst_vars; omega)) (by first | assumption | exact Ow.divw64 (by omega) (by omega) | exact Ow.mul0 ⟨by omega, by omega⟩ | exact Ow.mul1 ⟨by omega, by omega⟩ | exact Ow.shl0 (by omega) (by omega) (by omega) | exact ⟨by omega, by omega⟩ | exact ⟨by omega, by omega, by omega⟩ | omega | (simp only [List.length_append, List.length_cons, List.length_nil]; omega) | (subst_vars; omega)) (by first | assumption | exact Ow.divw64 (by omega) (by omega) | exact Ow.mul0 ⟨by omega, by omega⟩ | exact Ow.mul1 ⟨by omega, by omega⟩ | exact Ow.shl0 (by omega) (by omega) (by omega) | exact ⟨by omega, by omega⟩ | exact ⟨by omega, by omega, by omega⟩ | omega | (simp only [List.length_append, List.length_cons, List.length_nil]; omega) | (subst_vars; omega)) (by first | assumption | exact Ow.divw64 (by omega) (by omega) | exact Ow.mul0 ⟨by omega, by omega⟩ | exact Ow.mul1 ⟨by omega, by omega⟩ | exact Ow.shl0 (by omega) (by omega) (by omega) | exact ⟨by omega, by omega⟩ | exact ⟨by omega, by omega, by omega⟩ | omega | (simp only [List.length_append, List.length_cons, List.length_nil]; omega) | (subst_vars; omega)) _ _ ((((Ow.same_new h_p).trans h2).trans (Ow.same_new h_p_3)).trans (Ow.same_new h_p_10)) (Same.free (((Ow.same_new h_p).trans h2).trans (Ow.same_new h_p_3)) h_p_10) upd_same
    · refine ⟨_, rfl, ?_⟩
      refine ⟨_, rfl, ?_⟩
      refine Ow.cc ?_
      refine Ow.ixd (j := 2) (m := 4294967296) (SqL.of h4) h1 rfl (fun it_21 h_it_21 b_it_21 => ?_)
      refine ⟨_, rfl, ?_⟩
      refine ⟨_, _, rfl, rfl, (by first | assumption | exact Ow.divw64 (by omega) (by omega) | exact Ow.mul0 ⟨by omega, by omega⟩ | exact Ow.mul1 ⟨by omega, by omega⟩ | exact Ow.shl0 (by omega) (by omega) (by omega) | exact ⟨by omega, by omega⟩ | exact ⟨by omega, by omega, by omega⟩ | omega | (simp only [List.length_append, List.length_cons, List.length_nil]; omega) | (subst_vars; omega)), fun r h_r h0_r h1_r => ?_⟩
      refine ⟨_, _, rfl, rfl, ?_⟩
      refine ⟨_, rfl, fun l_word_2 h_l_word_2 => ?_⟩
      refine ⟨_, rfl, ?_⟩
      refine Ow.cc ?_
      refine Ow.ixd (j := 3) (m := 8) (SqL.of h4) h1 rfl (fun it_22 h_it_22 b_it_22 => ?_)
      refine ⟨_, _, rfl, rfl, ?_⟩
      refine ⟨_, rfl, ?_⟩
      refine Ow.ifd (fun h9 => ?_) (fun h9 => ?_)
      · refine ⟨_, rfl, ?_⟩
        refine ⟨_, rfl, ?_⟩
        refine ⟨_, _, rfl, rfl, ?_⟩
        refine ⟨by show 4 ≤ sizeLine; decide, fun p_11 h_p_11 => ?_⟩
        refine ⟨_, rfl, ?_⟩
        refine Ow.cc ?_
        refine Ow.ixd (j := 3) (m := 8) (SqL.of (Ow.at_new h_p_11 h4)) h1 rfl (fun it_23 h_it_23 b_it_23 => ?_)
        obtain rfl : it_22 = it_23 := Option.some.inj (h_it_22.symm.trans h_it_23)
        refine Ow.ixi4 (SqL.of upd_same) (by first | assumption | exact Ow.divw64 (by omega) (by omega) | exact Ow.mul0 ⟨by omega, by omega⟩ | exact Ow.mul1 ⟨by omega, by omega⟩ | exact Ow.shl0 (by omega) (by omega) (by omega) | exact ⟨by omega, by omega⟩ | exact ⟨by omega, by omega, by omega⟩ | omega | (simp only [List.length_append, List.length_cons, List.length_nil]; omega) | (subst_vars; omega)) (fun it_24 h_it_24 => ?_)
        refine ⟨_, rfl, fun l_high_4 h_l_high_4 => ?_⟩
        refine ⟨_, rfl, ?_⟩
        refine Ow.cc ?_
        refine Ow.ixd (j := 5) (m := 8) (SqL.of (Ow.at_new h_p_11 h4)) h1 rfl (fun it_25 h_it_25 b_it_25 => ?_)
        refine ⟨_, _, rfl, rfl, ?_⟩
        refine ⟨_, rfl, ?_⟩
        refine Ow.ifd (fun h10 => ?_) (fun h10 => ?_)
        · refine ⟨_, rfl, ?_⟩
          refine ⟨_, _, rfl, rfl, ?_⟩
          refine ⟨_, rfl, ?_⟩
          refine ⟨by show 4 ≤ sizeLine; decide, fun p_12 h_p_12 => ?_⟩
          refine ⟨_, rfl, ?_⟩
          refine Ow.cc ?_
          refine Ow.ixd (j := 5) (m := 8) (SqL.of (Ow.at_new h_p_12 (Ow.at_new h_p_11 h4))) h1 rfl (fun it_26 h_it_26 b_it_26 => ?_)
          obtain rfl : it_25 = it_26 := Option.some.inj (h_it_25.symm.trans h_it_26)
          refine Ow.ixi4 (SqL.of upd_same) (by first | assumption | exact Ow.divw64 (by omega) (by omega) | exact Ow.mul0 ⟨by omega, by omega⟩ | exact Ow.mul1 ⟨by omega, by omega⟩ | exact Ow.shl0 (by omega) (by omega) (by omega) | exact ⟨by omega, by omega⟩ | exact ⟨by omega, by omega, by omega⟩ | omega | (simp only [List.length_append, List.length_cons, List.length_nil]; omega) | (subst_vars; omega)) (fun it_27 h_it_27 => ?_)
          refine ⟨_, rfl, fun l_low_7 h_l_low_7 => ?_⟩
          refine ⟨_, rfl, ?_⟩
          refine ⟨_, rfl, ?_⟩
          refine ⟨_, rfl, ?_⟩
          refine ⟨_, rfl, ?_⟩
          refine ⟨_, rfl, ?_⟩
          refine Ow.cc ?_
          refine Ow.ixd (j := 7) (m := 2) (SqL.of (Ow.at_new h_p_12 (Ow.at_new h_p_11 h4))) h1 rfl (fun it_28 h_it_28 b_it_28 => ?_)
          refine ⟨by show 5 ≤ sizeLine; decide, fun p_13 h_p_13 => ?_⟩
          exact kont l_width l_high_4 l_low_7 l_word_2 it_28 (by first | assumption | exact Ow.divw64 (by omega) (by omega) | exact Ow.mul0 ⟨by omega, by omega⟩ | exact Ow.mul1 ⟨by omega, by omega⟩ | exact Ow.shl0 (by omega) (by omega) (by omega) | exact ⟨by omega, by omega⟩ | exact ⟨by omega, by omega, by omega⟩ | omega | (simp only [List.length_append, List.length_cons, List.length_nil]; omega) | (subst_vars; omega)) (by first | assumption | exact Ow.divw64 (by omega) (by omega) | exact Ow.mul0 ⟨by omega, by omega⟩ | exact Ow.mul1 ⟨by omega, by omega⟩ | exact Ow.shl0 (by omega) (by omega) (by omega) | exact ⟨by omega, by omega⟩ | exact ⟨by omega, by omega, by omega⟩ | omega | (simp only [List.length_append, List.length_cons, List.length_nil]; omega) | (subst_vars; omega)) (by first | assumption | exact Ow.divw64 (by omega) (by omega) | exact Ow.mul0 ⟨by omega, by omega⟩ | exact Ow.mul1 ⟨by omega, by omega⟩ | exact Ow.shl0 (by omega) (by omega) (by omega) | exact ⟨by omega, by omega⟩ | exact ⟨by omega, by omega, by omega⟩ | omega | (simp only [List.length_append, List.length_cons, List.length_nil]; omega) | (subst_vars; omega)) (by first | assumption | exact Ow.divw64 (by omega) (by omega) | exact Ow.mul0 ⟨by omega, by omega⟩ | exact Ow.mul1 ⟨by omega, by omega⟩ | exact Ow.shl0 (by omega) (by omega) (by omega) | exact ⟨by omega, by omega⟩ | exact ⟨by omega, by omega, by omega⟩ | omega | (simp only [List.length_append, List.length_cons, List.length_nil]; omega) | (subst_vars; omega)) (by first | assumption | exact Ow.divw64 (by omega) (by omega) | exact Ow.mul0 ⟨by omega, by omega⟩ | exact Ow.mul1 ⟨by omega, by omega⟩ | exact Ow.shl0 (by omega) (by omega) (by omega) | exact ⟨by omega, by omega⟩ | exact ⟨by omega, by omega, by omega⟩ | omega | (simp only [List.length_append, List.length_cons, List.length_nil]; omega) | (subst_vars; omega)) (by first | assumption | exact Ow.divw64 (by omega) (by omega) | exact Ow.mul0 ⟨by omega, by omega⟩ | exact Ow.mul1 ⟨by omega, by omega⟩ | exact Ow.shl0 (by omega) (by omega) (by omega) | exact ⟨by omega, by omega⟩ | exact ⟨by omega, by omega, by omega⟩ | omega | (simp only [List.length_append, List.length_cons, List.length_nil]; omega) | (subst_vars; omega)) (by first | assumption | exact Ow.divw64 (by omega) (by omega) | exact Ow.mul0 ⟨by omega, by omega⟩ | exact Ow.mul1 ⟨by omega, by omega⟩ | exact Ow.shl0 (by omega) (by omega) (by omega) | exact ⟨by omega, by omega⟩ | exact ⟨by omega, by omega, by omega⟩ | omega | (simp only [List.length_append, List.length_cons, List.length_nil]; omega) | (subst_vars; omega)) (by first | assumption | exact Ow.divw64 (by omega) (by omega) | exact Ow.mul0 ⟨by omega, by omega⟩ | exact Ow.mul1 ⟨by omega, by omega⟩ | exact Ow.shl0 (by omega) (by omega) (by omega) | exact ⟨by omega, by omega⟩ | exact ⟨by omega, by omega, by omega⟩ | omega | (simp only [List.length_append, List.length_cons, List.length_nil]; omega) | (subst_vars; omega)) _ _ (((((Ow.same_new h_p).trans h2).trans (Ow.same_new h_p_11)).trans (Ow.same_new h_p_12)).trans (Ow.same_new h_p_13)) (Same.free ((((Ow.same_new h_p).trans h2).trans (Ow.same_new h_p_11)).trans (Ow.same_new h_p_12)) h_p_13) upd_same
        · refine ⟨_, rfl, ?_⟩
          refine Ow.cc ?_
          refine Ow.ixd (j := 6) (m := 4294967296) (SqL.of (Ow.at_new h_p_11 h4)) h1 rfl (fun it_29 h_it_29 b_it_29 => ?_)
          refine ⟨_, rfl, ?_⟩
          refine ⟨_, _, rfl, rfl, (by first | assumption | exact Ow.divw64 (by omega) (by omega) | exact Ow.mul0 ⟨by omega, by omega⟩ | exact Ow.mul1 ⟨by omega, by omega⟩ | exact Ow.shl0 (by omega) (by omega) (by omega) | exact ⟨by omega, by omega⟩ | exact ⟨by omega, by omega, by omega⟩ | omega | (simp only [List.length_append, List.length_cons, List.length_nil]; omega) | (subst_vars; omega)), fun l_low_8 h_l_low_8 h0_l_low_8 h1_l_low_8 => ?_⟩
          refine ⟨_, rfl, fun l_low_9 h_l_low_9 => ?_⟩
          refine ⟨_, rfl, ?_⟩
          refine ⟨_, rfl, ?_⟩
          refine ⟨_, rfl, ?_⟩
          refine ⟨_, rfl, ?_⟩
          refine ⟨_, rfl, ?_⟩
          refine Ow.cc ?_
          refine Ow.ixd (j := 7) (m := 2) (SqL.of (Ow.at_new h_p_11 h4)) h1 rfl (fun it_30 h_it_30 b_it_30 => ?_)
          refine ⟨by show 5 ≤ sizeLine; decide, fun p_14 h_p_14 => ?_⟩
          exact kont l_width l_high_4 l_low_9 l_word_2 it_30 (by first | assumption | exact Ow.divw64 (by omega) (by omega) | exact Ow.mul0 ⟨by omega, by omega⟩ | exact Ow.mul1 ⟨by omega, by omega⟩ | exact Ow.shl0 (by omega) (by omega) (by omega) | exact ⟨by omega, by omega⟩ | exact ⟨by omega, by omega, by omega⟩ | omega | (simp only [List.length_append, List.length_cons, List.length_nil]; omega) | (subst_vars; omega)) (by first | assumption | exact Ow.divw64 (by omega) (by omega) | exact Ow.mul0 ⟨by omega, by omega⟩ | exact Ow.mul1 ⟨by omega, by omega⟩ | exact Ow.shl0 (by omega) (by omega) (by omega) | exact ⟨by omega, by omega⟩ | exact ⟨by omega, by omega, by omega⟩ | omega | (simp only [List.length_append, List.length_cons, List.length_nil]; omega) | (subst_vars; omega)) (by first | assumption | exact Ow.divw64 (by omega) (by omega) | exact Ow.mul0 ⟨by omega, by omega⟩ | exact Ow.mul1 ⟨by omega, by omega⟩ | exact Ow.shl0 (by omega) (by omega) (by omega) | exact ⟨by omega, by omega⟩ | exact ⟨by omega, by omega, by omega⟩ | omega | (simp only [List.length_append, List.length_cons, List.length_nil]; omega) | (subst_vars; omega)) (by first | assumption | exact Ow.divw64 (by omega) (by omega) | exact Ow.mul0 ⟨by omega, by omega⟩ | exact Ow.mul1 ⟨by omega, by omega⟩ | exact Ow.shl0 (by omega) (by omega) (by omega) | exact ⟨by omega, by omega⟩ | exact ⟨by omega, by omega, by omega⟩ | omega | (simp only [List.length_append, List.length_cons, List.length_nil]; omega) | (subst_vars; omega)) (by first | assumption | exact Ow.divw64 (by omega) (by omega) | exact Ow.mul0 ⟨by omega, by omega⟩ | exact Ow.mul1 ⟨by omega, by omega⟩ | exact Ow.shl0 (by omega) (by omega) (by omega) | exact ⟨by omega, by omega⟩ | exact ⟨by omega, by omega, by omega⟩ | omega | (simp only [List.length_append, List.length_cons, List.length_nil]; omega) | (subst_vars; omega)) (by first | assumption | exact Ow.divw64 (by omega) (by omega) | exact Ow.mul0 ⟨by omega, by omega⟩ | exact Ow.mul1 ⟨by omega, by omega⟩ | exact Ow.shl0 (by omega) (by omega) (by omega) | exact ⟨by omega, by omega⟩ | exact ⟨by omega, by omega, by omega⟩ | omega | (simp only [List.length_append, List.length_cons, List.length_nil]; omega) | (subst_vars; omega)) (by first | assumption | exact Ow.divw64 (by omega) (by omega) | exact Ow.mul0 ⟨by omega, by omega⟩ | exact Ow.mul1 ⟨by omega, by omega⟩ | exact Ow.shl0 (by omega) (by omega) (by omega) | exact ⟨by omega, by omega⟩ | exact ⟨by omega, by omega, by omega⟩ | omega | (simp only [List.length_append, List.length_cons, List.length_nil]; omega) | (subst_vars; omega)) (by first | assumption | exact Ow.divw64 (by omega) (by omega) | exact Ow.mul0 ⟨by omega, by omega⟩ | exact Ow.mul1 ⟨by omega, by omega⟩ | exact Ow.shl0 (by omega) (by omega) (by omega) | exact ⟨by omega, by omega⟩ | exact ⟨by omega, by omega, by omega⟩ | omega | (simp only [List.length_append, List.length_cons, List.length_nil]; omega) | (subst_vars; omega)) _ _ ((((Ow.same_new h_p).trans h2).trans (Ow.same_new h_p_11)).trans (Ow.same_new h_p_14)) (Same.free (((Ow.same_new h_p).trans h2).trans (Ow.same_new h_p_11)) h_p_14) upd_same
      · refine ⟨_, rfl, ?_⟩
        refine Ow.cc ?_
        refine Ow.ixd (j := 4) (m := 4294967296) (SqL.of h4) h1 rfl (fun it_31 h_it_31 b_it_31 => ?_)
        refine ⟨_, rfl, ?_⟩
        refine ⟨_, _, rfl, rfl, ?_⟩
        refine ⟨_, _, rfl, rfl, (by first | assumption | exact Ow.divw64 (by omega) (by omega) | exact Ow.mul0 ⟨by omega, by omega⟩ | exact Ow.mul1 ⟨by omega, by omega⟩ | exact Ow.shl0 (by omega) (by omega) (by omega) | exact ⟨by omega, by omega⟩ | exact ⟨by omega, by omega, by omega⟩ | omega | (simp only [List.length_append, List.length_cons, List.length_nil]; omega) | (subst_vars; omega)), fun l_high_5 h_l_high_5 h0_l_high_5 h1_l_high_5 => ?_⟩
        refine ⟨_, rfl, fun l_high_6 h_l_high_6 => ?_⟩
        refine ⟨_, rfl, ?_⟩
        refine Ow.cc ?_
        refine Ow.ixd (j := 5) (m := 8) (SqL.of h4) h1 rfl (fun it_32 h_it_32 b_it_32 => ?_)
        refine ⟨_, _, rfl, rfl, ?_⟩
        refine ⟨_, rfl, ?_⟩
        refine Ow.ifd (fun h11 => ?_) (fun h11 => ?_)
        · refine ⟨_, rfl, ?_⟩
          refine ⟨_, _, rfl, rfl, ?_⟩
          refine ⟨_, rfl, ?_⟩
          refine ⟨by show 4 ≤ sizeLine; decide, fun p_15 h_p_15 => ?_⟩
          refine ⟨_, rfl, ?_⟩
          refine Ow.cc ?_
          refine Ow.ixd (j := 5) (m := 8) (SqL.of (Ow.at_new h_p_15 h4)) h1 rfl (fun it_33 h_it_33 b_it_33 => ?_)
          obtain rfl : it_32 = it_33 := Option.some.inj (h_it_32.symm.trans h_it_33)
          refine Ow.ixi4 (SqL.of upd_same) (by first | assumption | exact Ow.divw64 (by omega) (by omega) | exact Ow.mul0 ⟨by omega, by omega⟩ | exact Ow.mul1 ⟨by omega, by omega⟩ | exact Ow.shl0 (by omega) (by omega) (by omega) | exact ⟨by omega, by omega⟩ | exact ⟨by omega, by omega, by omega⟩ | omega | (simp only [List.length_append, List.length_cons, List.length_nil]; omega) | (subst_vars; omega)) (fun it_34 h_it_34 => ?_)
          refine ⟨_, rfl, fun l_low_10 h_l_low_10 => ?_⟩
          refine ⟨_, rfl, ?_⟩
          refine ⟨_, rfl, ?_⟩
          refine ⟨_, rfl, ?_⟩
          refine ⟨_, rfl, ?_⟩
          refine ⟨_, rfl, ?_⟩
          refine Ow.cc ?_
          refine Ow.ixd (j := 7) (m := 2) (SqL.of (Ow.at_new h_p_15 h4)) h1 rfl (fun it_35 h_it_35 b_it_35 => ?_)
          refine ⟨by show 5 ≤ sizeLine; decide, fun p_16 h_p_16 => ?_⟩
          exact kont l_width l_high_6 l_low_10 l_word_2 it_35 (by first | assumption | exact Ow.divw64 (by omega) (by omega) | exact Ow.mul0 ⟨by omega, by omega⟩ | exact Ow.mul1 ⟨by omega, by omega⟩ | exact Ow.shl0 (by omega) (by omega) (by omega) | exact ⟨by omega, by omega⟩ | exact ⟨by omega, by omega, by omega⟩ | omega | (simp only [List.length_append, List.length_cons, List.length_nil]; omega) | (subst_vars; omega)) (by first | assumption | exact Ow.divw64 (by omega) (by omega) | exact Ow.mul0 ⟨by omega, by omega⟩ | exact Ow.mul1 ⟨by omega, by omega⟩ | exact Ow.shl0 (by omega) (by omega) (by omega) | exact ⟨by omega, by omega⟩ | exact ⟨by omega, by omega, by omega⟩ | omega | (simp only [List.length_append, List.length_cons, List.length_nil]; omega) | (subst_vars; omega)) (by first | assumption | exact Ow.divw64 (by omega) (by omega) | exact Ow.mul0 ⟨by omega, by omega⟩ | exact Ow.mul1 ⟨by omega, by omega⟩ | exact Ow.shl0 (by omega) (by omega) (by omega) | exact ⟨by omega, by omega⟩ | exact ⟨by omega, by omega, by omega⟩ | omega | (simp only [List.length_append, List.length_cons, List.length_nil]; omega) | (subst_vars; omega)) (by first | assumption | exact Ow.divw64 (by omega) (by omega) | exact Ow.mul0 ⟨by omega, by omega⟩ | exact Ow.mul1 ⟨by omega, by omega⟩ | exact Ow.shl0 (by omega) (by omega) (by omega) | exact ⟨by omega, by omega⟩ | exact ⟨by omega, by omega, by omega⟩ | omega | (simp only [List.length_append, List.length_cons, List.length_nil]; omega) | (subst_vars; omega)) (by first | assumption | exact Ow.divw64 (by omega) (by omega) | exact Ow.mul0 ⟨by omega, by omega⟩ | exact Ow.mul1 ⟨by omega, by omega⟩ | exact Ow.shl0 (by omega) (by omega) (by omega) | exact ⟨by omega, by omega⟩ | exact ⟨by omega, by omega, by omega⟩ | omega | (simp only [List.length_append, List.length_cons, List.length_nil]; omega) | (subst_vars; omega)) (by first | assumption | exact Ow.divw64 (by omega) (by omega) | exact Ow.mul0 ⟨by omega, by omega⟩ | exact Ow.mul1 ⟨by omega, by omega⟩ | exact Ow.shl0 (by omega) (by omega) (by omega) | exact ⟨by omega, by omega⟩ | exact ⟨by omega, by omega, by omega⟩ | omega | (simp only [List.length_append, List.length_cons, List.length_nil]; omega) | (subst_vars; omega)) (by first | assumption | exact Ow.divw64 (by omega) (by omega) | exact Ow.mul0 ⟨by omega, by omega⟩ | exact Ow.mul1 ⟨by omega, by omega⟩ | exact Ow.shl0 (by omega) (by omega) (by omega) | exact ⟨by omega, by omega⟩ | exact ⟨by omega, by omega, by omega⟩ | omega | (simp only [List.length_append, List.length_cons, List.length_nil]; omega) | (subst_vars; omega)) (by first | assumption | exact Ow.divw64 (by omega) (by omega) | exact Ow.mul0 ⟨by omega, by omega⟩ | exact Ow.mul1 ⟨by omega, by omega⟩ | exact Ow.shl0 (by omega) (by omega) (by omega) | exact ⟨by omega, by omega⟩ | exact ⟨by omega, by omega, by omega⟩ | omega | (simp only [List.length_append, List.length_cons, List.length_nil]; omega) | (subst_vars; omega)) _ _ ((((Ow.same_new h_p).trans h2).trans (Ow.same_new h_p_15)).trans (Ow.same_new h_p_16)) (Same.free (((Ow.same_new h_p).trans h2).trans (Ow.same_new h_p_15)) h_p_16) upd_same
        · refine ⟨_, rfl, ?_⟩
          refine Ow.cc ?_
          refine Ow.ixd (j := 6) (m := 4294967296) (SqL.of h4) h1 rfl (fun it_36 h_it_36 b_it_36 => ?_)
          refine ⟨_, rfl, ?_⟩
          refine ⟨_, _, rfl, rfl, (by first | assumption | exact Ow.divw64 (by omega) (by omega) | exact Ow.mul0 ⟨by omega, by omega⟩ | exact Ow.mul1 ⟨by omega, by omega⟩ | exact Ow.shl0 (by omega) (by omega) (by omega) | exact ⟨by omega, by omega⟩ | exact ⟨by omega, by omega, by omega⟩ | omega | (simp only [List.length_append, List.length_cons, List.length_nil]; omega) | (subst_vars; omega)), fun l_low_11 h_l_low_11 h0_l_low_11 h1_l_low_11 => ?_⟩
          refine ⟨_, rfl, fun l_low_12 h_l_low_12 => ?_⟩
          refine ⟨_, rfl, ?_⟩
          refine ⟨_, rfl, ?_⟩
          refine ⟨_, rfl, ?_⟩
          refine ⟨_, rfl, ?_⟩
          refine ⟨_, rfl, ?_⟩
          refine Ow.cc ?_
          refine Ow.ixd (j := 7) (m := 2) (SqL.of h4) h1 rfl (fun it_37 h_it_37 b_it_37 => ?_)
          refine ⟨by show 5 ≤ sizeLine; decide, fun p_17 h_p_17 => ?_⟩
          exact kont l_width l_high_6 l_low_12 l_word_2 it_37 (by first | assumption | exact Ow.divw64 (by omega) (by omega) | exact Ow.mul0 ⟨by omega, by omega⟩ | exact Ow.mul1 ⟨by omega, by omega⟩ | exact Ow.shl0 (by omega) (by omega) (by omega) | exact ⟨by omega, by omega⟩ | exact ⟨by omega, by omega, by omega⟩ | omega | (simp only [List.length_append, List.length_cons, List.length_nil]; omega) | (subst_vars; omega)) (by first | assumption | exact Ow.divw64 (by omega) (by omega) | exact Ow.mul0 ⟨by omega, by omega⟩ | exact Ow.mul1 ⟨by omega, by omega⟩ | exact Ow.shl0 (by omega) (by omega) (by omega) | exact ⟨by omega, by omega⟩ | exact ⟨by omega, by omega, by omega⟩ | omega | (simp only [List.length_append, List.length_cons, List.length_nil]; omega) | (subst_vars; omega)) (by first | assumption | exact Ow.divw64 (by omega) (by omega) | exact Ow.mul0 ⟨by omega, by omega⟩ | exact Ow.mul1 ⟨by omega, by omega⟩ | exact Ow.shl0 (by omega) (by omega) (by omega) | exact ⟨by omega, by omega⟩ | exact ⟨by omega, by omega, by omega⟩ | omega | (simp only [List.length_append, List.length_cons, List.length_nil]; omega) | (subst_vars; omega)) (by first | assumption | exact Ow.divw64 (by omega) (by omega) | exact Ow.mul0 ⟨by omega, by omega⟩ | exact Ow.mul1 ⟨by omega, by omega⟩ | exact Ow.shl0 (by omega) (by omega) (by omega) | exact ⟨by omega, by omega⟩ | exact ⟨by omega, by omega, by omega⟩ | omega | (simp only [List.length_append, List.length_cons, List.length_nil]; omega) | (subst_vars; omega)) (by first | assumption | exact Ow.divw64 (by omega) (by omega) | exact Ow.mul0 ⟨by omega, by omega⟩ | exact Ow.mul1 ⟨by omega, by omega⟩ | exact Ow.shl0 (by omega) (by omega) (by omega) | exact ⟨by omega, by omega⟩ | exact ⟨by omega, by omega, by omega⟩ | omega | (simp only [List.length_append, List.length_cons, List.length_nil]; omega) | (subst_vars; omega)) (by first | assumption | exact Ow.divw64 (by omega) (by omega) | exact Ow.mul0 ⟨by omega, by omega⟩ | exact Ow.mul1 ⟨by omega, by omega⟩ | exact Ow.shl0 (by omega) (by omega) (by omega) | exact ⟨by omega, by omega⟩ | exact ⟨by omega, by omega, by omega⟩ | omega | (simp only [List.length_append, List.length_cons, List.length_nil]; omega) | (subst_vars; omega)) (by first | assumption | exact Ow.divw64 (by omega) (by omega) | exact Ow.mul0 ⟨by omega, by omega⟩ | exact Ow.mul1 ⟨by omega, by omega⟩ | exact Ow.shl0 (by omega) (by omega) (by omega) | exact ⟨by omega, by omega⟩ | exact ⟨by omega, by omega, by omega⟩ | omega | (simp only [List.length_append, List.length_cons, List.length_nil]; omega) | (subst_vars; omega)) (by first | assumption | exact Ow.divw64 (by omega) (by omega) | exact Ow.mul0 ⟨by omega, by omega⟩ | exact Ow.mul1 ⟨by omega, by omega⟩ | exact Ow.shl0 (by omega) (by omega) (by omega) | exact ⟨by omega, by omega⟩ | exact ⟨by omega, by omega, by omega⟩ | omega | (simp only [List.length_append, List.length_cons, List.length_nil]; omega) | (subst_vars; omega)) _ _ (((Ow.same_new h_p).trans h2).trans (Ow.same_new h_p_17)) (Same.free ((Ow.same_new h_p).trans h2) h_p_17) upd_same
theorem ok_is_whole (T : Tx K mg) : FnOk P w K mg base CX0 1 T.d_is_whole.f T.d_is_whole.fd ["thing"] (sp_is_whole T) := by
  refine T.d_is_whole.F.ok sc_is_whole (fun vs H Q E h => ?_) (fun cdv A outer s H vs Q E hr h => ?_)
  · obtain ⟨thing, rfl, _⟩ := h
    rfl
  · obtain ⟨thing, rfl, kont⟩ := h
    refine ⟨_, (pss_one (ps_ret (pe_and (pe_callB call_isi (by rfl) T.z_isinstance (by decide +kernel) (pa_cons (pv 0) (pa_cons (pe_bltn (v := .ty "int") (by rfl) T.z_int (by decide +kernel) rfl) pa_nil))) (pe_one (pe_not (pe_callB call_isi (by rfl) T.z_isinstance (by decide +kernel) (pa_cons (pv 0) (pa_cons (pe_bltn (v := .ty "bool") (by rfl) T.z_bool (by decide +kernel) rfl) pa_nil)))))))), ?_⟩
    refine ⟨_, rfl, ?_⟩
    refine ⟨_, _, _, _, true, rfl, .ty _, .base (.int _), kit_ty (by decide +kernel), ?_⟩
    refine ⟨_, rfl, ?_⟩
    refine iteT ?_
    refine ⟨_, rfl, ?_⟩
    refine ⟨_, _, _, _, false, rfl, .ty _, .base (.int _), kit_ty (by decide +kernel), ?_⟩
    refine ⟨_, rfl, ?_⟩
    exact kont
theorem ok_need_width (T : Tx K mg) : FnOk P w K mg base CX0 3 T.d_need_width.f T.d_need_width.fd ["width"] (sp_need_width T) := by
  refine T.d_need_width.F.ok sc_need_width (fun vs H Q E h => ?_) (fun cdv A outer s H vs Q E hr h => ?_)
  · obtain ⟨width, rfl, _⟩ := h
    rfl
  · obtain ⟨width, rfl, c0, c1, kont⟩ := h
    have p32_width := Ow.pow2_le32 (w := width) (by omega)
    have p0_width := Ow.p2 width.toNat
    refine ⟨_, (pss_one (ps_if (PW.pt (pw_or (pt_not (pt_val (pe_call (Ow.ok_is_whole T) (hr.mono (by decide : 1 ≤ 2)) (by rfl) T.d_is_whole.m T.d_is_whole.F.kp T.d_is_whole.b .nil pass0 (pa_cons (pv 0) pa_nil)))) (pw_or1 (pt_not (pt_chain op_le op_le (pe_glob (v := .int (4)) rfl T.g_LEAST_WIDTH.choose_spec ⟨_, rfl⟩) (pv 0) (pe_glob (v := .int (32)) rfl T.g_GREATEST_WIDTH.choose_spec ⟨_, rfl⟩)))))) (pss_one ps_never) pss_nil)), ?_⟩
    refine ⟨_, rfl, ?_⟩
    refine ⟨_, rfl, ?_⟩
    refine ⟨_, rfl, ?_⟩
    refine iteF ?_
    refine ⟨_, rfl, ?_⟩
    refine ⟨_, _, rfl, rfl, ?_⟩
    refine ⟨_, rfl, ?_⟩
    refine Ow.ifd (fun h1 => ?_) (fun h1 => ?_)
    · refine ⟨_, _, rfl, rfl, ?_⟩
      refine ⟨_, rfl, ?_⟩
      refine Ow.ifnd (fun h2 => ?_) (fun h2 => ?_)
      · exact ((by first | assumption | exact Ow.divw64 (by omega) (by omega) | exact Ow.mul0 ⟨by omega, by omega⟩ | exact Ow.mul1 ⟨by omega, by omega⟩ | exact Ow.shl0 (by omega) (by omega) (by omega) | exact ⟨by omega, by omega⟩ | exact ⟨by omega, by omega, by omega⟩ | omega | (simp only [List.length_append, List.length_cons, List.length_nil]; omega) | (subst_vars; omega)) : False).elim
      · exact kont
    · refine ⟨_, rfl, ?_⟩
      refine iteT ?_
      exact ((by first | assumption | exact Ow.divw64 (by omega) (by omega) | exact Ow.mul0 ⟨by omega, by omega⟩ | exact Ow.mul1 ⟨by omega, by omega⟩ | exact Ow.shl0 (by omega) (by omega) (by omega) | exact ⟨by omega, by omega⟩ | exact ⟨by omega, by omega, by omega⟩ | omega | (simp only [List.length_append, List.length_cons, List.length_nil]; omega) | (subst_vars; omega)) : False).elim
theorem ok_need_word (T : Tx K mg) : FnOk P w K mg base CX0 3 T.d_need_word.f T.d_need_word.fd ["width", "thing"] (sp_need_word T) := by
  refine T.d_need_word.F.ok sc_need_word (fun vs H Q E h => ?_) (fun cdv A outer s H vs Q E hr h => ?_)
  · obtain ⟨width, thing, rfl, _⟩ := h
    rfl
  · obtain ⟨width, thing, rfl, c0, c1, c2, c3, kont⟩ := h
    have p32_width := Ow.pow2_le32 (w := width) (by omega)
    have p0_width := Ow.p2 width.toNat
    refine ⟨_, (pss_one (ps_if (PW.pt (pw_or (pt_not (pt_val (pe_call (Ow.ok_is_whole T) (hr.mono (by decide : 1 ≤ 2)) (by rfl) T.d_is_whole.m T.d_is_whole.F.kp T.d_is_whole.b .nil pass0 (pa_cons (pv 1) pa_nil)))) (pw_or (pt_cmpR op_lt (pv 1) pe_int (nomark _)) (pw_or1 (pt_cmpR op_gt (pe_op Ow.op_shrN (pv 1) (pv 0)) pe_int (nomark _)))))) (pss_one ps_never) pss_nil)), ?_⟩
    refine ⟨_, rfl, ?_⟩
    refine ⟨_, rfl, ?_⟩
    refine ⟨_, rfl, ?_⟩
    refine iteF ?_
    refine ⟨_, rfl, ?_⟩
    refine ⟨_, _, rfl, rfl, ?_⟩
    refine ⟨_, rfl, ?_⟩
    refine Ow.ifd (fun h1 => ?_) (fun h1 => ?_)
    · refine iteT ?_
      exact ((by first | assumption | exact Ow.divw64 (by omega) (by omega) | exact Ow.mul0 ⟨by omega, by omega⟩ | exact Ow.mul1 ⟨by omega, by omega⟩ | exact Ow.shl0 (by omega) (by omega) (by omega) | exact ⟨by omega, by omega⟩ | exact ⟨by omega, by omega, by omega⟩ | omega | (simp only [List.length_append, List.length_cons, List.length_nil]; omega) | (subst_vars; omega) | (have g := Int.ediv_eq_zero_of_lt c2 c3; omega)) : False).elim
    · refine ⟨_, rfl, ?_⟩
      refine ⟨_, rfl, ?_⟩
      refine ⟨_, _, rfl, rfl, (by first | assumption | exact Ow.divw64 (by omega) (by omega) | exact Ow.mul0 ⟨by omega, by omega⟩ | exact Ow.mul1 ⟨by omega, by omega⟩ | exact Ow.shl0 (by omega) (by omega) (by omega) | exact ⟨by omega, by omega⟩ | exact ⟨by omega, by omega, by omega⟩ | omega | (simp only [List.length_append, List.length_cons, List.length_nil]; omega) | (subst_vars; omega)), fun q h_q => ?_⟩
      refine ⟨_, _, rfl, rfl, ?_⟩
      refine ⟨_, rfl, ?_⟩
      refine Ow.ifd (fun h2 => ?_) (fun h2 => ?_)
      · exact ((by first | assumption | exact Ow.divw64 (by omega) (by omega) | exact Ow.mul0 ⟨by omega, by omega⟩ | exact Ow.mul1 ⟨by omega, by omega⟩ | exact Ow.shl0 (by omega) (by omega) (by omega) | exact ⟨by omega, by omega⟩ | exact ⟨by omega, by omega, by omega⟩ | omega | (simp only [List.length_append, List.length_cons, List.length_nil]; omega) | (subst_vars; omega) | (have g := Int.ediv_eq_zero_of_lt c2 c3; omega)) : False).elim
      · exact kont
theorem ok_guess_rows (T : Tx K mg) : FnOk P w K mg base CX0 4 T.d_guess_rows.f T.d_guess_rows.fd ["width", "high", "low", "word"] (sp_guess_rows T) := by
  refine T.d_guess_rows.F.ok sc_guess_rows (fun vs H Q E h => ?_) (fun cdv A outer s H vs Q E hr h => ?_)
  · obtain ⟨width, high, low, word, rfl, _⟩ := h
    rfl
  · obtain ⟨width, high, low, word, rfl, c0, c1, c2, c3, c4, c5, c6, c7, kont⟩ := h
    have p32_width := Ow.pow2_le32 (w := width) (by omega)
    have p0_width := Ow.p2 width.toNat
    have e2 := Ow.pow2_pred (w := width) (by omega)
    have e3 := Ow.p2 (width - 1).toNat
    have e4 := Ow.word_sh (w := width) (by omega) c2 c3
    have e5 := Ow.pow2_pred (w := width - 1) (by omega)
    have e6 := Ow.p2 (width - 1 - 1).toNat
    refine ⟨_, (pss_cons (ps_expr (pe_call (Ow.ok_need_width T) (hr.mono (by decide : 3 ≤ 3)) (by rfl) T.d_need_width.m T.d_need_width.F.kp T.d_need_width.b .nil pass0 (pa_cons (pv 0) pa_nil)))
        (pss_cons (ps_expr (pe_call (Ow.ok_need_word T) (hr.mono (by decide : 3 ≤ 3)) (by rfl) T.d_need_word.m T.d_need_word.F.kp T.d_need_word.b .nil pass0 (pa_cons (pv 0) (pa_cons (pv 1) pa_nil))))
        (pss_cons (ps_expr (pe_call (Ow.ok_need_word T) (hr.mono (by decide : 3 ≤ 3)) (by rfl) T.d_need_word.m T.d_need_word.F.kp T.d_need_word.b .nil pass0 (pa_cons (pv 0) (pa_cons (pv 2) pa_nil))))
        (pss_cons (ps_if (PW.pt (pw_or (pt_not (pt_val (pe_call (Ow.ok_is_whole T) (hr.mono (by decide : 1 ≤ 3)) (by rfl) T.d_is_whole.m T.d_is_whole.F.kp T.d_is_whole.b .nil pass0 (pa_cons (pv 3) pa_nil)))) (pw_or1 (pt_cmpR op_ne (pe_op Ow.op_shrN (pv 3) (pe_op op_sub (pv 0) pe_int)) pe_int (nomark _))))) (pss_one ps_never) pss_nil)
        (pss_cons (ps_if (pt_cmpR op_gt (pv 1) (pv 3) (nomark _)) (pss_one ps_never) pss_nil)
        (pss_cons (ps_set (i := 4) sc_guess_rows.nd rfl (Or.inl rfl) (pe_lst pa_nil))
        (pss_cons (ps_set (i := 5) sc_guess_rows.nd rfl (Or.inl rfl) (pv 1))
        (pss_cons (ps_for PassesOwn.never rfl (pi_range3 (by rfl) T.z_range (pa_cons (pe_op op_sub (pv 0) pe_int) (pa_cons (Ow.pe_lit (-1) (pe_un un_neg pe_int)) (pa_cons (Ow.pe_lit (-1) (pe_un un_neg pe_int)) pa_nil)))) (pg_name (i := 6) sc_guess_rows.nd rfl (Or.inl rfl)) (pss_cons (ps_set (i := 5) sc_guess_rows.nd rfl (Or.inl rfl) (pe_op Ow.op_bor (pe_op Ow.op_shlN (pv 5) pe_int) (pe_op Ow.op_mask (pe_op Ow.op_shrN (pv 2) (pv 6)) pe_int)))
        (pss_cons (ps_set (i := 7) sc_guess_rows.nd rfl (Or.inl rfl) pe_int)
        (pss_cons (ps_if (pt_cmpR op_ge (pv 5) (pv 3) (nomark _)) (pss_cons (ps_set (i := 7) sc_guess_rows.nd rfl (Or.inl rfl) pe_int)
        (pss_one (ps_aug (i := 5) sc_guess_rows.nd rfl (Or.inl rfl) (pv 3) ip_sub))) pss_nil)
        (pss_one (ps_expr (pe_bm PySem.F.plainAttrs_list PySem.F.slot_list_append PySem.F.type_list_append mt_append (pv 4) (pa_cons (pe_tup (pa_cons (pv 7) (pa_cons (pv 5) pa_nil))) pa_nil))))))))
        (pss_one (ps_ret (pv 4))))))))))), ?_⟩
    refine ⟨_, rfl, ?_⟩
    refine ⟨_, rfl, (by first | assumption | exact Ow.divw64 (by omega) (by omega) | exact Ow.mul0 ⟨by omega, by omega⟩ | exact Ow.mul1 ⟨by omega, by omega⟩ | exact Ow.shl0 (by omega) (by omega) (by omega) | exact ⟨by omega, by omega⟩ | exact ⟨by omega, by omega, by omega⟩ | omega | (simp only [List.length_append, List.length_cons, List.length_nil]; omega) | (subst_vars; omega)), (by first | assumption | exact Ow.divw64 (by omega) (by omega) | exact Ow.mul0 ⟨by omega, by omega⟩ | exact Ow.mul1 ⟨by omega, by omega⟩ | exact Ow.shl0 (by omega) (by omega) (by omega) | exact ⟨by omega, by omega⟩ | exact ⟨by omega, by omega, by omega⟩ | omega | (simp only [List.length_append, List.length_cons, List.length_nil]; omega) | (subst_vars; omega)), ?_⟩
    refine ⟨_, rfl, ?_⟩
    refine ⟨_, rfl, ?_⟩
    refine ⟨_, _, rfl, (by first | assumption | exact Ow.divw64 (by omega) (by omega) | exact Ow.mul0 ⟨by omega, by omega⟩ | exact Ow.mul1 ⟨by omega, by omega⟩ | exact Ow.shl0 (by omega) (by omega) (by omega) | exact ⟨by omega, by omega⟩ | exact ⟨by omega, by omega, by omega⟩ | omega | (simp only [List.length_append, List.length_cons, List.length_nil]; omega) | (subst_vars; omega)), (by first | assumption | exact Ow.divw64 (by omega) (by omega) | exact Ow.mul0 ⟨by omega, by omega⟩ | exact Ow.mul1 ⟨by omega, by omega⟩ | exact Ow.shl0 (by omega) (by omega) (by omega) | exact ⟨by omega, by omega⟩ | exact ⟨by omega, by omega, by omega⟩ | omega | (simp only [List.length_append, List.length_cons, List.length_nil]; omega) | (subst_vars; omega)), (by first | assumption | exact Ow.divw64 (by omega) (by omega) | exact Ow.mul0 ⟨by omega, by omega⟩ | exact Ow.mul1 ⟨by omega, by omega⟩ | exact Ow.shl0 (by omega) (by omega) (by omega) | exact ⟨by omega, by omega⟩ | exact ⟨by omega, by omega, by omega⟩ | omega | (simp only [List.length_append, List.length_cons, List.length_nil]; omega) | (subst_vars; omega)), (by first | assumption | exact Ow.divw64 (by omega) (by omega) | exact Ow.mul0 ⟨by omega, by omega⟩ | exact Ow.mul1 ⟨by omega, by omega⟩ | exact Ow.shl0 (by omega) (by omega) (by omega) | exact ⟨by omega, by omega⟩ | exact ⟨by omega, by omega, by omega⟩ | omega | (simp only [List.length_append, List.length_cons, List.length_nil]; omega) | (subst_vars; omega)), ?_⟩
    refine ⟨_, rfl, ?_⟩
    refine ⟨_, rfl, ?_⟩
    refine ⟨_, _, rfl, (by first | assumption | exact Ow.divw64 (by omega) (by omega) | exact Ow.mul0 ⟨by omega, by omega⟩ | exact Ow.mul1 ⟨by omega, by omega⟩ | exact Ow.shl0 (by omega) (by omega) (by omega) | exact ⟨by omega, by omega⟩ | exact ⟨by omega, by omega, by omega⟩ | omega | (simp only [List.length_append, List.length_cons, List.length_nil]; omega) | (subst_vars; omega)), (by first | assumption | exact Ow.divw64 (by omega) (by omega) | exact Ow.mul0 ⟨by omega, by omega⟩ | exact Ow.mul1 ⟨by omega, by omega⟩ | exact Ow.shl0 (by omega) (by omega) (by omega) | exact ⟨by omega, by omega⟩ | exact ⟨by omega, by omega, by omega⟩ | omega | (simp only [List.length_append, List.length_cons, List.length_nil]; omega) | (subst_vars; omega)), (by first | assumption | exact Ow.divw64 (by omega) (by omega) | exact Ow.mul0 ⟨by omega, by omega⟩ | exact Ow.mul1 ⟨by omega, by omega⟩ | exact Ow.shl0 (by omega) (by omega) (by omega) | exact ⟨by omega, by omega⟩ | exact ⟨by omega, by omega, by omega⟩ | omega | (simp only [List.length_append, List.length_cons, List.length_nil]; omega) | (subst_vars; omega)), (by first | assumption | exact Ow.divw64 (by omega) (by omega) | exact Ow.mul0 ⟨by omega, by omega⟩ | exact Ow.mul1 ⟨by omega, by omega⟩ | exact Ow.shl0 (by omega) (by omega) (by omega) | exact ⟨by omega, by omega⟩ | exact ⟨by omega, by omega, by omega⟩ | omega | (simp only [List.length_append, List.length_cons, List.length_nil]; omega) | (subst_vars; omega)), ?_⟩
    refine ⟨_, rfl, ?_⟩
    refine ⟨_, rfl, ?_⟩
    refine ⟨_, rfl, ?_⟩
    refine iteF ?_
    refine ⟨_, rfl, ?_⟩
    refine ⟨_, rfl, ?_⟩
    refine ⟨_, _, rfl, rfl, ?_⟩
    refine ⟨_, _, rfl, rfl, (by first | assumption | exact Ow.divw64 (by omega) (by omega) | exact Ow.mul0 ⟨by omega, by omega⟩ | exact Ow.mul1 ⟨by omega, by omega⟩ | exact Ow.shl0 (by omega) (by omega) (by omega) | exact ⟨by omega, by omega⟩ | exact ⟨by omega, by omega, by omega⟩ | omega | (simp only [List.length_append, List.length_cons, List.length_nil]; omega) | (subst_vars; omega)), fun q h_q => ?_⟩
    refine ⟨rfl, ?_⟩
    refine ⟨_, rfl, ?_⟩
    refine Ow.ifnei (fun h1 => ?_) (fun h1 => ?_)
    · exact ((by first | assumption | exact Ow.divw64 (by omega) (by omega) | exact Ow.mul0 ⟨by omega, by omega⟩ | exact Ow.mul1 ⟨by omega, by omega⟩ | exact Ow.shl0 (by omega) (by omega) (by omega) | exact ⟨by omega, by omega⟩ | exact ⟨by omega, by omega, by omega⟩ | omega | (simp only [List.length_append, List.length_cons, List.length_nil]; omega) | (subst_vars; omega)) : False).elim
    · refine ⟨_, rfl, ?_⟩
      refine ⟨_, rfl, ?_⟩
      refine ⟨_, _, rfl, rfl, ?_⟩
      refine ⟨_, rfl, ?_⟩
      refine Ow.ifd (fun h2 => ?_) (fun h2 => ?_)
      · exact ((by first | assumption | exact Ow.divw64 (by omega) (by omega) | exact Ow.mul0 ⟨by omega, by omega⟩ | exact Ow.mul1 ⟨by omega, by omega⟩ | exact Ow.shl0 (by omega) (by omega) (by omega) | exact ⟨by omega, by omega⟩ | exact ⟨by omega, by omega, by omega⟩ | omega | (simp only [List.length_append, List.length_cons, List.length_nil]; omega) | (subst_vars; omega)) : False).elim
      · refine ⟨by show 0 ≤ sizeLine; decide, fun p h_p => ?_⟩
        refine ⟨_, rfl, ?_⟩
        refine ⟨_, rfl, ?_⟩
        refine ⟨_, _, rfl, rfl, ?_⟩
        refine ⟨_, rfl, ?_⟩
        refine ⟨by decide, ?_⟩
        refine ⟨_, rfl, ?_⟩
        refine ⟨by decide, ?_⟩
        refine ⟨_, _, _, _, rfl, RgC.neg (by first | assumption | exact Ow.divw64 (by omega) (by omega) | exact Ow.mul0 ⟨by omega, by omega⟩ | exact Ow.mul1 ⟨by omega, by omega⟩ | exact Ow.shl0 (by omega) (by omega) (by omega) | exact ⟨by omega, by omega⟩ | exact ⟨by omega, by omega, by omega⟩ | omega | (simp only [List.length_append, List.length_cons, List.length_nil]; omega) | (subst_vars; omega)) (by first | assumption | exact Ow.divw64 (by omega) (by omega) | exact Ow.mul0 ⟨by omega, by omega⟩ | exact Ow.mul1 ⟨by omega, by omega⟩ | exact Ow.shl0 (by omega) (by omega) (by omega) | exact ⟨by omega, by omega⟩ | exact ⟨by omega, by omega, by omega⟩ | omega | (simp only [List.length_append, List.length_cons, List.length_nil]; omega) | (subst_vars; omega)) (by first | assumption | exact Ow.divw64 (by omega) (by omega) | exact Ow.mul0 ⟨by omega, by omega⟩ | exact Ow.mul1 ⟨by omega, by omega⟩ | exact Ow.shl0 (by omega) (by omega) (by omega) | exact ⟨by omega, by omega⟩ | exact ⟨by omega, by omega, by omega⟩ | omega | (simp only [List.length_append, List.length_cons, List.length_nil]; omega) | (subst_vars; omega)) (by first | assumption | exact Ow.divw64 (by omega) (by omega) | exact Ow.mul0 ⟨by omega, by omega⟩ | exact Ow.mul1 ⟨by omega, by omega⟩ | exact Ow.shl0 (by omega) (by omega) (by omega) | exact ⟨by omega, by omega⟩ | exact ⟨by omega, by omega, by omega⟩ | omega | (simp only [List.length_append, List.length_cons, List.length_nil]; omega) | (subst_vars; omega)), ?_⟩
        refine for_rangeC (lo := width - 1) (c := -1) (fun ixv σ2 H2 => ∃ (p : Addr) (rs : Ow.Rw2) (rest : Int) (vs_rs : List V) (v_6 : Option V) (v_7 : Option V), σ2 = [some (.int (width)), some (.int (high)), some (.int (low)), some (.int (word)), some (.ref p), some (.int (rest)), v_6, v_7] ∧ Same H H2 ∧ H2 p = some (.lst vs_rs) ∧ H p = none ∧ Ow.Rws Ow.g2 H2 vs_rs rs ∧ (rs ++ Ow.grows word low (width.toNat - ixv) rest = Ow.grows word low width.toNat high) ∧ (0 ≤ rest) ∧ (rest ≤ word + 2 ^ ixv - 1) ∧ (rs.length = ixv) ∧ True) ⟨p, [], high, [], _, _, rfl, (Ow.same_new h_p), upd_same, h_p, Ow.Rws.nil, (by first | rfl | omega | (rw [Nat.sub_zero]; rfl)), (by first | rfl | omega | (rw [Nat.sub_zero]; rfl)), (by first | rfl | omega | (rw [Nat.sub_zero]; rfl)), (by first | rfl | omega | (rw [Nat.sub_zero]; rfl)), trivial⟩ ?_ ?_
        · rintro i _ Hn h3 ⟨p_2, rs, rest, vs_rs, _, _, rfl, h4, h5, h6, h7, h8, h9, h10, h11, _⟩
          refine Ow.gdown (fun k h_k => ?_)
          have hi : i < width.toNat := by omega
          have st := Ow.grows_turn (by assumption : rs ++ Ow.grows word low (width.toNat - i) rest = _) hi
          obtain ⟨gr, hgr⟩ : ∃ z, z = Ow.gstep word low rest (width.toNat - i - 1) := ⟨_, rfl⟩
          rw [← hgr] at st
          obtain ⟨rs0, hrs0⟩ : ∃ z, z = rest := ⟨_, rfl⟩
          have ek : ∀ x : Int, x = width - 1 - (i : Int) → x.toNat = width.toNat - i - 1 := fun x hx => by omega
          have pi := Ow.pow2_mono (a := i) (b := 32) (by omega)
          have pj := Int.pow_succ 2 i
          have p0 := Ow.p2 i
          refine ⟨_, rfl, ?_⟩
          refine ⟨_, _, rfl, rfl, (by first | assumption | exact Ow.divw64 (by omega) (by omega) | exact Ow.mul0 ⟨by omega, by omega⟩ | exact Ow.mul1 ⟨by omega, by omega⟩ | exact Ow.shl0 (by omega) (by omega) (by omega) | exact ⟨by omega, by omega⟩ | exact ⟨by omega, by omega, by omega⟩ | omega | (simp only [List.length_append, List.length_cons, List.length_nil]; omega) | (subst_vars; omega)), fun s (h_s : s = rest * 2) => ?_⟩
          refine ⟨_, rfl, ?_⟩
          refine ⟨_, rfl, ?_⟩
          refine ⟨_, _, rfl, rfl, (by first | assumption | exact Ow.divw64 (by omega) (by omega) | exact Ow.mul0 ⟨by omega, by omega⟩ | exact Ow.mul1 ⟨by omega, by omega⟩ | exact Ow.shl0 (by omega) (by omega) (by omega) | exact ⟨by omega, by omega⟩ | exact ⟨by omega, by omega, by omega⟩ | omega | (simp only [List.length_append, List.length_cons, List.length_nil]; omega) | (subst_vars; omega)), fun q_2 h_q_2 => ?_⟩
          refine ⟨_, _, 1, rfl, rfl, by decide, fun r (h_r : r = q_2 % 2) h0_r (h1_r : r < 2) => ?_⟩
          refine ⟨_, _, rfl, rfl, (by first | assumption | exact Ow.divw64 (by omega) (by omega) | exact Ow.mul0 ⟨by omega, by omega⟩ | exact Ow.mul1 ⟨by omega, by omega⟩ | exact Ow.shl0 (by omega) (by omega) (by omega) | exact ⟨by omega, by omega⟩ | exact ⟨by omega, by omega, by omega⟩ | omega | (simp only [List.length_append, List.length_cons, List.length_nil]; omega) | (subst_vars; omega)), (by first | assumption | exact Ow.divw64 (by omega) (by omega) | exact Ow.mul0 ⟨by omega, by omega⟩ | exact Ow.mul1 ⟨by omega, by omega⟩ | exact Ow.shl0 (by omega) (by omega) (by omega) | exact ⟨by omega, by omega⟩ | exact ⟨by omega, by omega, by omega⟩ | omega | (simp only [List.length_append, List.length_cons, List.length_nil]; omega) | (subst_vars; omega)), fun rest_2 h_rest_2 h0_rest_2 => ?_⟩
          have er := Ow.or2 h_rest_2 (by assumption) (by omega) (by assumption) (by assumption)
          rw [h_r, h_q_2, ek _ h_k, ← hrs0] at er
          rw [hrs0] at er
          refine ⟨_, rfl, ?_⟩
          refine ⟨_, rfl, ?_⟩
          refine ⟨_, _, rfl, rfl, ?_⟩
          refine ⟨_, rfl, ?_⟩
          refine Ow.ifd (fun h12 => ?_) (fun h12 => ?_)
          · refine ⟨_, rfl, ?_⟩
            refine ⟨_, rfl, ?_⟩
            refine ⟨_, _, rfl, rfl, ?_⟩
            refine ⟨_, rfl, ?_⟩
            refine ⟨.inl ⟨rfl, _, (SqL.of h5)⟩, ?_⟩
            refine ⟨_, rfl, ?_⟩
            refine ⟨_, rfl, ?_⟩
            refine ⟨by show 2 ≤ sizeLine; decide, fun p_3 h_p_3 => ?_⟩
            refine ⟨_, _, _, rfl, rfl, (Ow.at_new h_p_3 h5), (Ow.szl (by rw [(h7).len]; omega)), ?_⟩
            exact ⟨p_2, (rs ++ [(1, (rest_2 - word))]), ((rest_2 - word)), (vs_rs ++ [V.ref p_3]), _, _, rfl, (Ow.same_mut (h4.trans (Ow.same_new h_p_3)) h6), upd_same, h6, (Ow.Rws.snoc (r := (1, (rest_2 - word))) (Ow.Rws.mut (Ow.at_new h_p_3 h5) (Ow.Rws.new h_p_3 h7)) (Ow.at_mutT (Ow.at_new h_p_3 h5) upd_same)), (by first | omega | (have e : gr = (1, ((rest_2 - word))) := by rw [hgr]; unfold Ow.gstep; first | (rw [if_pos (by omega)]; congr 1; omega) | (rw [if_neg (by omega)]; congr 1; omega)); (subst e; exact st) | (rw [List.length_append, List.length_cons, List.length_nil]; omega)), (by first | omega | (have e : gr = (1, ((rest_2 - word))) := by rw [hgr]; unfold Ow.gstep; first | (rw [if_pos (by omega)]; congr 1; omega) | (rw [if_neg (by omega)]; congr 1; omega)); (subst e; exact st) | (rw [List.length_append, List.length_cons, List.length_nil]; omega)), (by first | omega | (have e : gr = (1, ((rest_2 - word))) := by rw [hgr]; unfold Ow.gstep; first | (rw [if_pos (by omega)]; congr 1; omega) | (rw [if_neg (by omega)]; congr 1; omega)); (subst e; exact st) | (rw [List.length_append, List.length_cons, List.length_nil]; omega)), (by first | omega | (have e : gr = (1, ((rest_2 - word))) := by rw [hgr]; unfold Ow.gstep; first | (rw [if_pos (by omega)]; congr 1; omega) | (rw [if_neg (by omega)]; congr 1; omega)); (subst e; exact st) | (rw [List.length_append, List.length_cons, List.length_nil]; omega)), trivial⟩
          · refine ⟨_, rfl, ?_⟩
            refine ⟨.inl ⟨rfl, _, (SqL.of h5)⟩, ?_⟩
            refine ⟨_, rfl, ?_⟩
            refine ⟨_, rfl, ?_⟩
            refine ⟨by show 2 ≤ sizeLine; decide, fun p_4 h_p_4 => ?_⟩
            refine ⟨_, _, _, rfl, rfl, (Ow.at_new h_p_4 h5), (Ow.szl (by rw [(h7).len]; omega)), ?_⟩
            exact ⟨p_2, (rs ++ [(0, rest_2)]), rest_2, (vs_rs ++ [V.ref p_4]), _, _, rfl, (Ow.same_mut (h4.trans (Ow.same_new h_p_4)) h6), upd_same, h6, (Ow.Rws.snoc (r := (0, rest_2)) (Ow.Rws.mut (Ow.at_new h_p_4 h5) (Ow.Rws.new h_p_4 h7)) (Ow.at_mutT (Ow.at_new h_p_4 h5) upd_same)), (by first | omega | (have e : gr = (0, rest_2) := by rw [hgr]; unfold Ow.gstep; first | (rw [if_pos (by omega)]; congr 1; omega) | (rw [if_neg (by omega)]; congr 1; omega)); (subst e; exact st) | (rw [List.length_append, List.length_cons, List.length_nil]; omega)), (by first | omega | (have e : gr = (0, rest_2) := by rw [hgr]; unfold Ow.gstep; first | (rw [if_pos (by omega)]; congr 1; omega) | (rw [if_neg (by omega)]; congr 1; omega)); (subst e; exact st) | (rw [List.length_append, List.length_cons, List.length_nil]; omega)), (by first | omega | (have e : gr = (0, rest_2) := by rw [hgr]; unfold Ow.gstep; first | (rw [if_pos (by omega)]; congr 1; omega) | (rw [if_neg (by omega)]; congr 1; omega)); (subst e; exact st) | (rw [List.length_append, List.length_cons, List.length_nil]; omega)), (by first | omega | (have e : gr = (0, rest_2) := by rw [hgr]; unfold Ow.gstep; first | (rw [if_pos (by omega)]; congr 1; omega) | (rw [if_neg (by omega)]; congr 1; omega)); (subst e; exact st) | (rw [List.length_append, List.length_cons, List.length_nil]; omega)), trivial⟩
        · rintro _ Hn_2 ⟨p_5, rs_2, rest_3, vs_rs_2, _, _, rfl, h13, h14, h15, h16, h17, h18, h19, h20, _⟩
          have hall := h17
          rw [show width.toNat - (width - 1 - -1).toNat = 0 by omega, Ow.grows, List.append_nil] at hall
          refine ⟨_, rfl, ?_⟩
          exact kont rs_2 (by exact hall) _ _ _ h13 h15 h14 h16
theorem ok_guess_of (T : Tx K mg) : FnOk P w K mg base CX0 5 T.d_guess_of.f T.d_guess_of.fd ["width", "high", "low", "word"] (sp_guess_of T) := by
  refine T.d_guess_of.F.ok sc_guess_of (fun vs H Q E h => ?_) (fun cdv A outer s H vs Q E hr h => ?_)
  · obtain ⟨width, high, low, word, rfl, _⟩ := h
    rfl
  · obtain ⟨width, high, low, word, rfl, c0, c1, c2, c3, c4, c5, c6, c7, kont⟩ := h
    have p32_width := Ow.pow2_le32 (w := width) (by omega)
    have p0_width := Ow.p2 width.toNat
    refine ⟨_, (pss_cons (ps_set (i := 4) sc_guess_of.nd rfl (Or.inl rfl) pe_int)
        (pss_cons (ps_for PassesOwn.never rfl (pi_list (pe_call (Ow.ok_guess_rows T) (hr.mono (by decide : 4 ≤ 4)) (by rfl) T.d_guess_rows.m T.d_guess_rows.F.kp T.d_guess_rows.b .nil pass0 (pa_cons (pv 0) (pa_cons (pv 1) (pa_cons (pv 2) (pa_cons (pv 3) pa_nil)))))) (pg_tup rfl (pgs_cons (pg_name (i := 5) sc_guess_of.nd rfl (Or.inl rfl)) (pgs_cons (pg_name (i := 6) sc_guess_of.nd rfl (Or.inl rfl)) pgs_nil))) (pss_one (ps_set (i := 4) sc_guess_of.nd rfl (Or.inl rfl) (pe_op Ow.op_bor (pe_op Ow.op_shlN (pv 4) pe_int) (pv 5)))))
        (pss_one (ps_ret (pv 4))))), ?_⟩
    refine ⟨_, rfl, ?_⟩
    refine ⟨_, rfl, ?_⟩
    refine ⟨_, rfl, ?_⟩
    refine ⟨_, rfl, ?_⟩
    refine ⟨_, _, _, _, rfl, (by first | assumption | exact Ow.divw64 (by omega) (by omega) | exact Ow.mul0 ⟨by omega, by omega⟩ | exact Ow.mul1 ⟨by omega, by omega⟩ | exact Ow.shl0 (by omega) (by omega) (by omega) | exact ⟨by omega, by omega⟩ | exact ⟨by omega, by omega, by omega⟩ | omega | (simp only [List.length_append, List.length_cons, List.length_nil]; omega) | (subst_vars; omega)), (by first | assumption | exact Ow.divw64 (by omega) (by omega) | exact Ow.mul0 ⟨by omega, by omega⟩ | exact Ow.mul1 ⟨by omega, by omega⟩ | exact Ow.shl0 (by omega) (by omega) (by omega) | exact ⟨by omega, by omega⟩ | exact ⟨by omega, by omega, by omega⟩ | omega | (simp only [List.length_append, List.length_cons, List.length_nil]; omega) | (subst_vars; omega)), (by first | assumption | exact Ow.divw64 (by omega) (by omega) | exact Ow.mul0 ⟨by omega, by omega⟩ | exact Ow.mul1 ⟨by omega, by omega⟩ | exact Ow.shl0 (by omega) (by omega) (by omega) | exact ⟨by omega, by omega⟩ | exact ⟨by omega, by omega, by omega⟩ | omega | (simp only [List.length_append, List.length_cons, List.length_nil]; omega) | (subst_vars; omega)), (by first | assumption | exact Ow.divw64 (by omega) (by omega) | exact Ow.mul0 ⟨by omega, by omega⟩ | exact Ow.mul1 ⟨by omega, by omega⟩ | exact Ow.shl0 (by omega) (by omega) (by omega) | exact ⟨by omega, by omega⟩ | exact ⟨by omega, by omega, by omega⟩ | omega | (simp only [List.length_append, List.length_cons, List.length_nil]; omega) | (subst_vars; omega)), (by first | assumption | exact Ow.divw64 (by omega) (by omega) | exact Ow.mul0 ⟨by omega, by omega⟩ | exact Ow.mul1 ⟨by omega, by omega⟩ | exact Ow.shl0 (by omega) (by omega) (by omega) | exact ⟨by omega, by omega⟩ | exact ⟨by omega, by omega, by omega⟩ | omega | (simp only [List.length_append, List.length_cons, List.length_nil]; omega) | (subst_vars; omega)), (by first | assumption | exact Ow.divw64 (by omega) (by omega) | exact Ow.mul0 ⟨by omega, by omega⟩ | exact Ow.mul1 ⟨by omega, by omega⟩ | exact Ow.shl0 (by omega) (by omega) (by omega) | exact ⟨by omega, by omega⟩ | exact ⟨by omega, by omega, by omega⟩ | omega | (simp only [List.length_append, List.length_cons, List.length_nil]; omega) | (subst_vars; omega)), (by first | assumption | exact Ow.divw64 (by omega) (by omega) | exact Ow.mul0 ⟨by omega, by omega⟩ | exact Ow.mul1 ⟨by omega, by omega⟩ | exact Ow.shl0 (by omega) (by omega) (by omega) | exact ⟨by omega, by omega⟩ | exact ⟨by omega, by omega, by omega⟩ | omega | (simp only [List.length_append, List.length_cons, List.length_nil]; omega) | (subst_vars; omega)), (by first | assumption | exact Ow.divw64 (by omega) (by omega) | exact Ow.mul0 ⟨by omega, by omega⟩ | exact Ow.mul1 ⟨by omega, by omega⟩ | exact Ow.shl0 (by omega) (by omega) (by omega) | exact ⟨by omega, by omega⟩ | exact ⟨by omega, by omega, by omega⟩ | omega | (simp only [List.length_append, List.length_cons, List.length_nil]; omega) | (subst_vars; omega)), fun rs h1 p Hn vs h2 h3 h4 h5 => ?_⟩
    refine ⟨_, rfl, ⟨_, (SqL.of h4)⟩, ?_⟩
    refine for_list (K := K) (a := p) (xs := vs) (fun ixv σ2 H2 => ∃ (g : Int) (v_5 : Option V) (v_6 : Option V), σ2 = [some (.int (width)), some (.int (high)), some (.int (low)), some (.int (word)), some (.int (g)), v_5, v_6] ∧ Same H H2 ∧ H2 p = some (.lst vs) ∧ Ow.Rws Ow.g2 H2 vs rs ∧ (g = Ow.gnum (List.take ixv rs)) ∧ True) ⟨0, _, _, rfl, h2, h4, h5, (by rfl), trivial⟩ (fun i σ2 H2 _ hz => ?_) ?_ ?_
    · obtain ⟨g, _, _, rfl, h6, h7, h8, h9, _⟩ := hz
      exact (SqL.of h7)
    · rintro i xit _ Hn_2 h10 ⟨g_2, _, _, rfl, h11, h12, h13, h14, _⟩
      obtain ⟨tp, r, rfl, h_tp, h_r⟩ := Ow.Rws.get h13 h10
      refine ⟨_, _, rfl, (SqT.of h_tp), rfl, ?_⟩
      refine ⟨_, _, rfl, ?_⟩
      refine ⟨_, _, rfl, ?_⟩
      refine ⟨rfl, ?_⟩
      have tl := Ow.gtake_lt (word := word) (low := low) (rest := high) (n := width.toNat) (i := i) (by have z := (List.getElem?_eq_some_iff.mp h_r).1; rw [(by assumption : rs = Ow.grows word low width.toNat high), Ow.grows_len] at z; omega)
      rw [← (by assumption : rs = Ow.grows word low width.toNat high)] at tl
      have tb := Ow.grows_bit width.toNat high r (by rw [← (by assumption : rs = Ow.grows word low width.toNat high)]; exact List.mem_of_getElem? h_r)
      have tg := Ow.gnum_turn h_r
      have pw := Ow.pow2_mono (a := i) (b := 32) (by have z := (List.getElem?_eq_some_iff.mp h_r).1; rw [(by assumption : rs = Ow.grows word low width.toNat high), Ow.grows_len] at z; omega)
      refine ⟨_, rfl, ?_⟩
      refine ⟨_, _, rfl, rfl, (by first | assumption | exact Ow.divw64 (by omega) (by omega) | exact Ow.mul0 ⟨by omega, by omega⟩ | exact Ow.mul1 ⟨by omega, by omega⟩ | exact Ow.shl0 (by omega) (by omega) (by omega) | exact ⟨by omega, by omega⟩ | exact ⟨by omega, by omega, by omega⟩ | omega | (simp only [List.length_append, List.length_cons, List.length_nil]; omega) | (subst_vars; omega)), fun s (h_s : s = g_2 * 2) => ?_⟩
      refine ⟨_, rfl, ?_⟩
      refine ⟨_, _, rfl, rfl, (by first | assumption | exact Ow.divw64 (by omega) (by omega) | exact Ow.mul0 ⟨by omega, by omega⟩ | exact Ow.mul1 ⟨by omega, by omega⟩ | exact Ow.shl0 (by omega) (by omega) (by omega) | exact ⟨by omega, by omega⟩ | exact ⟨by omega, by omega, by omega⟩ | omega | (simp only [List.length_append, List.length_cons, List.length_nil]; omega) | (subst_vars; omega)), (by first | assumption | exact Ow.divw64 (by omega) (by omega) | exact Ow.mul0 ⟨by omega, by omega⟩ | exact Ow.mul1 ⟨by omega, by omega⟩ | exact Ow.shl0 (by omega) (by omega) (by omega) | exact ⟨by omega, by omega⟩ | exact ⟨by omega, by omega, by omega⟩ | omega | (simp only [List.length_append, List.length_cons, List.length_nil]; omega) | (subst_vars; omega)), fun guess h_guess h0_guess => ?_⟩
      exact ⟨guess, _, _, rfl, h11, h12, h13, (by have e := Ow.or2 h_guess (by assumption) (by omega) (by omega) (by omega); omega), trivial⟩
    · rintro _ Hn_3 ⟨g_3, _, _, rfl, h15, h16, h17, h18, _⟩
      have hlen := (h17).len
      have hall := h18
      rw [hlen, List.take_length] at hall
      refine ⟨_, rfl, ?_⟩
      exact kont g_3 (by exact hall.trans (congrArg Ow.gnum (by assumption))) _ h15
theorem ok_l_whole (T : Tx K mg) : FnOk P w K mg base CX0 1 T.d_l_whole.f T.d_l_whole.fd ["_law_found"] (sp_l_whole T) := by
  refine T.d_l_whole.F.ok sc_l_whole (fun vs H Q E h => ?_) (fun cdv A outer s H vs Q E hr h => ?_)
  · obtain ⟨found, rfl, _⟩ := h
    rfl
  · obtain ⟨found, rfl, kont⟩ := h
    refine ⟨_, (pss_one (ps_ret (pe_and (pe_callB call_isi (by rfl) T.z_isinstance (by decide +kernel) (pa_cons (pv 0) (pa_cons (pe_bltn (v := .ty "int") (by rfl) T.z_int (by decide +kernel) rfl) pa_nil))) (pe_one (pe_not (pe_callB call_isi (by rfl) T.z_isinstance (by decide +kernel) (pa_cons (pv 0) (pa_cons (pe_bltn (v := .ty "bool") (by rfl) T.z_bool (by decide +kernel) rfl) pa_nil)))))))), ?_⟩
    refine ⟨_, rfl, ?_⟩
    refine ⟨_, _, _, _, true, rfl, .ty _, .base (.int _), kit_ty (by decide +kernel), ?_⟩
    refine ⟨_, rfl, ?_⟩
    refine iteT ?_
    refine ⟨_, rfl, ?_⟩
    refine ⟨_, _, _, _, false, rfl, .ty _, .base (.int _), kit_ty (by decide +kernel), ?_⟩
    refine ⟨_, rfl, ?_⟩
    exact kont
theorem ok_l_row (T : Tx K mg) : FnOk P w K mg base CX0 2 T.d_l_row.f T.d_l_row.fd ["_law_row_here", "_law_come", "_law_bit", "_law_word"] (sp_l_row T) := by
  refine T.d_l_row.F.ok sc_l_row (fun vs H Q E h => ?_) (fun cdv A outer s H vs Q E hr h => ?_)
  · obtain ⟨row, come, bit, word, x, y, rfl, _⟩ := h
    rfl
  · obtain ⟨row, come, bit, word, x, y, rfl, c0, c1, kont⟩ := h
    refine ⟨_, (pss_cons (ps_if (PW.pt (pw_or (pt_not (pt_val (pe_callB call_isi (by rfl) T.z_isinstance (by decide +kernel) (pa_cons (pv 0) (pa_cons (pe_bltn (v := .ty "tuple") (by rfl) T.z_tuple (by decide +kernel) rfl) pa_nil))))) (pw_or (pt_cmpR op_ne (Ow.pe_nmi (pe_callB call_len_seq (by rfl) T.z_len (by decide +kernel) (pa_cons (pv 0) pa_nil))) pe_int (nomark _)) (pw_or (pt_not (pt_val (pe_call (Ow.ok_l_whole T) (hr.mono (by decide : 1 ≤ 1)) (by rfl) T.d_l_whole.m T.d_l_whole.F.kp T.d_l_whole.b .nil pass0 (pa_cons (pe_ix ix_tup (pv 0) pe_int (fun _ _ => rfl)) pa_nil)))) (pw_or1 (pt_not (pt_val (pe_call (Ow.ok_l_whole T) (hr.mono (by decide : 1 ≤ 1)) (by rfl) T.d_l_whole.m T.d_l_whole.F.kp T.d_l_whole.b .nil pass0 (pa_cons (pe_ix ix_tup (pv 0) pe_int (fun _ _ => rfl)) pa_nil))))))))) (pss_one (ps_ret pe_bl)) pss_nil)
        (pss_cons (ps_set (i := 4) sc_l_row.nd rfl (Or.inl rfl) (Ow.pe_nmi (pe_op op_add (pe_op Ow.op_mulN pe_int (pv 1)) (pv 2))))
        (pss_cons (ps_if (pt_cmpR op_ge (pv 4) (pv 3) (nomark _)) (pss_one (ps_ret (pe_cmpR (Ow.op_eqT hr.units) (pv 0) (pe_tup (pa_cons pe_int (pa_cons (pe_op op_sub (pv 4) (pv 3)) pa_nil))) (nomark _)))) pss_nil)
        (pss_one (ps_ret (pe_cmpR (Ow.op_eqT hr.units) (pv 0) (pe_tup (pa_cons pe_int (pa_cons (pv 4) pa_nil))) (nomark _))))))), ?_⟩
    refine ⟨_, rfl, ?_⟩
    refine ⟨_, _, _, _, true, rfl, .ty _, .base (.tup c0), kit_ty (by decide +kernel), ?_⟩
    refine ⟨_, rfl, ?_⟩
    refine iteF ?_
    refine ⟨_, rfl, ?_⟩
    refine ⟨_, _, rfl, .inr (SqT.of c0), ?_⟩
    refine ⟨_, rfl, fun len h_len => ?_⟩
    replace h_len : len = 2 := h_len
    refine ⟨rfl, ?_⟩
    refine ⟨_, rfl, ?_⟩
    refine Ow.ifnei (fun h1 => ?_) (fun h1 => ?_)
    · refine iteT ?_
      exact ((by first | assumption | exact Ow.divw64 (by omega) (by omega) | exact Ow.mul0 ⟨by omega, by omega⟩ | exact Ow.mul1 ⟨by omega, by omega⟩ | exact Ow.shl0 (by omega) (by omega) (by omega) | exact ⟨by omega, by omega⟩ | exact ⟨by omega, by omega, by omega⟩ | omega | (simp only [List.length_append, List.length_cons, List.length_nil]; omega) | (subst_vars; omega)) : False).elim
    · refine ⟨_, rfl, ?_⟩
      refine ⟨_, _, _, _, rfl, rfl, (SqT.of c0), (by first | rfl | decide), ?_⟩
      refine ⟨_, rfl, ?_⟩
      refine ⟨_, rfl, ?_⟩
      refine iteF ?_
      refine ⟨_, rfl, ?_⟩
      refine ⟨_, _, _, _, rfl, rfl, (SqT.of c0), (by first | rfl | decide), ?_⟩
      refine ⟨_, rfl, ?_⟩
      refine ⟨_, rfl, ?_⟩
      refine iteF ?_
      refine ⟨_, rfl, ?_⟩
      refine ⟨_, _, rfl, rfl, (by first | assumption | exact Ow.divw64 (by omega) (by omega) | exact Ow.mul0 ⟨by omega, by omega⟩ | exact Ow.mul1 ⟨by omega, by omega⟩ | exact Ow.shl0 (by omega) (by omega) (by omega) | exact ⟨by omega, by omega⟩ | exact ⟨by omega, by omega, by omega⟩ | omega | (simp only [List.length_append, List.length_cons, List.length_nil]; omega) | (subst_vars; omega)), fun m h_m => ?_⟩
      refine ⟨_, rfl, ?_⟩
      refine ⟨_, _, rfl, rfl, ?_⟩
      refine ⟨_, rfl, fun l_now h_l_now => ?_⟩
      refine ⟨_, rfl, ?_⟩
      refine ⟨_, rfl, ?_⟩
      refine ⟨_, _, rfl, rfl, ?_⟩
      refine ⟨_, rfl, ?_⟩
      refine Ow.ifd (fun h2 => ?_) (fun h2 => ?_)
      · refine ⟨_, rfl, ?_⟩
        refine ⟨_, rfl, ?_⟩
        refine ⟨_, rfl, ?_⟩
        refine ⟨_, _, rfl, rfl, ?_⟩
        refine ⟨by show 2 ≤ sizeLine; decide, fun p h_p => ?_⟩
        refine ⟨_, _, [x, y], [1, l_now - word], rfl, rfl, (SqT.of (Ow.at_new h_p c0)), (SqT.of upd_same), ?_⟩
        refine Ow.eqd (by simp only [List.cons.injEq, and_true]; omega) ?_
        exact kont _ (Ow.same_new h_p)
      · refine ⟨_, rfl, ?_⟩
        refine ⟨_, rfl, ?_⟩
        refine ⟨by show 2 ≤ sizeLine; decide, fun p_2 h_p_2 => ?_⟩
        refine ⟨_, _, [x, y], [0, l_now], rfl, rfl, (SqT.of (Ow.at_new h_p_2 c0)), (SqT.of upd_same), ?_⟩
        refine Ow.eqd (by simp only [List.cons.injEq, and_true]; omega) ?_
        exact kont _ (Ow.same_new h_p_2)
theorem ok_l_held (T : Tx K mg) : FnOk P w K mg base CX0 3 T.d_l_held.f T.d_l_held.fd ["_law_width", "_law_high", "_law_low", "_law_word", "_law_rows", "_law_guess"] (sp_l_held T) := by
  refine T.d_l_held.F.ok sc_l_held (fun vs H Q E h => ?_) (fun cdv A outer s H vs Q E hr h => ?_)
  · obtain ⟨width, high, low, word, rows, guess, rs, vs_rs, rfl, _⟩ := h
    rfl
  · obtain ⟨width, high, low, word, rows, guess, rs, vs_rs, rfl, c0, c1, c2, c3, c4, c5, c6, c7, ⟨c8, rc8⟩, c9, c10, kont⟩ := h
    have p32_width := Ow.pow2_le32 (w := width) (by omega)
    have p0_width := Ow.p2 width.toNat
    have e2 := Ow.pow2_pred (w := width) (by omega)
    have e3 := Ow.p2 (width - 1).toNat
    have gm := Ow.guess_min (w := width) (by omega) c4 c5 c6 c7
    refine ⟨_, (pss_cons (ps_if (PW.pt (pw_or (pt_not (pt_val (pe_callB call_isi (by rfl) T.z_isinstance (by decide +kernel) (pa_cons (pv 4) (pa_cons (pe_bltn (v := .ty "list") (by rfl) T.z_list (by decide +kernel) rfl) pa_nil))))) (pw_or (pt_cmpR op_ne (Ow.pe_nmi (pe_callB call_len_seq (by rfl) T.z_len (by decide +kernel) (pa_cons (pv 4) pa_nil))) (pv 0) (nomark _)) (pw_or1 (pt_not (pt_val (pe_call (Ow.ok_l_whole T) (hr.mono (by decide : 1 ≤ 2)) (by rfl) T.d_l_whole.m T.d_l_whole.F.kp T.d_l_whole.b .nil pass0 (pa_cons (pv 5) pa_nil)))))))) (pss_one (ps_ret pe_bl)) pss_nil)
        (pss_cons (ps_set (i := 6) sc_l_held.nd rfl (Or.inl rfl) (pv 1))
        (pss_cons (ps_set (i := 7) sc_l_held.nd rfl (Or.inl rfl) pe_int)
        (pss_cons (ps_for PassesOwn.never rfl (pi_range1 (by rfl) T.z_range (pa_cons (pv 0) pa_nil)) (pg_name (i := 8) sc_l_held.nd rfl (Or.inl rfl)) (pss_cons (ps_if (pt_not (pt_val (pe_call (Ow.ok_l_row T) (hr.mono (by decide : 2 ≤ 2)) (by rfl) T.d_l_row.m T.d_l_row.F.kp T.d_l_row.b .nil pass0 (pa_cons (pe_ix ix_list (pv 4) (pv 8) (fun _ _ => rfl)) (pa_cons (pv 6) (pa_cons (pe_op Ow.op_modN (pe_op Ow.op_divN (pv 2) (pe_op Ow.op_shl1 pe_int (pe_op op_sub (pe_op op_sub (pv 0) pe_int) (pv 8)))) pe_int) (pa_cons (pv 3) pa_nil))))))) (pss_one (ps_ret pe_bl)) pss_nil)
        (pss_cons (ps_set (i := 6) sc_l_held.nd rfl (Or.inl rfl) (pe_ix ix_tup (pe_ix ix_list (pv 4) (pv 8) (fun _ _ => rfl)) pe_int (fun _ _ => rfl)))
        (pss_one (ps_set (i := 7) sc_l_held.nd rfl (Or.inl rfl) (Ow.pe_nmi (pe_op op_add (pe_op Ow.op_mulN pe_int (pv 7)) (pe_ix ix_tup (pe_ix ix_list (pv 4) (pv 8) (fun _ _ => rfl)) pe_int (fun _ _ => rfl)))))))))
        (pss_cons (ps_set (i := 9) sc_l_held.nd rfl (Or.inl rfl) (Ow.pe_nmi (pe_callB (call_min2 rfl) (by rfl) T.z_min (by decide +kernel) (pa_cons (pe_op op_sub (pe_op Ow.op_shl1 pe_int (pv 0)) pe_int) (pa_cons (pe_op Ow.op_divN (pe_op op_add (pe_op Ow.op_mulN (pv 1) (pe_op Ow.op_shl1 pe_int (pv 0))) (pv 2)) (pv 3)) pa_nil)))))
        (pss_one (ps_ret (pe_and (pe_cmpR op_eq (pv 5) (pv 7) (nomark _)) (pe_one (pe_cmpR op_eq (pv 5) (pv 9) (nomark _))))))))))), ?_⟩
    refine ⟨_, rfl, ?_⟩
    refine ⟨_, _, _, _, true, rfl, .ty _, .base (.lst c8), kit_ty (by decide +kernel), ?_⟩
    refine ⟨_, rfl, ?_⟩
    refine iteF ?_
    refine ⟨_, rfl, ?_⟩
    refine ⟨_, _, rfl, .inl (SqL.of c8), ?_⟩
    refine ⟨_, rfl, fun len h_len => ?_⟩
    rw [(rc8).len] at h_len
    refine ⟨_, rfl, ?_⟩
    refine ⟨rfl, ?_⟩
    refine ⟨_, rfl, ?_⟩
    refine Ow.ifnei (fun h1 => ?_) (fun h1 => ?_)
    · refine iteT ?_
      exact ((by first | assumption | exact Ow.divw64 (by omega) (by omega) | exact Ow.mul0 ⟨by omega, by omega⟩ | exact Ow.mul1 ⟨by omega, by omega⟩ | exact Ow.shl0 (by omega) (by omega) (by omega) | exact ⟨by omega, by omega⟩ | exact ⟨by omega, by omega, by omega⟩ | omega | (simp only [List.length_append, List.length_cons, List.length_nil]; omega) | (subst_vars; omega) | (have := congrArg List.length c9; rw [Ow.grows_len] at this; omega)) : False).elim
    · refine ⟨_, rfl, ?_⟩
      refine ⟨_, rfl, ?_⟩
      refine ⟨_, rfl, ?_⟩
      refine iteF ?_
      refine ⟨_, rfl, ?_⟩
      refine ⟨_, rfl, ?_⟩
      refine ⟨_, rfl, (by first | assumption | exact Ow.divw64 (by omega) (by omega) | exact Ow.mul0 ⟨by omega, by omega⟩ | exact Ow.mul1 ⟨by omega, by omega⟩ | exact Ow.shl0 (by omega) (by omega) (by omega) | exact ⟨by omega, by omega⟩ | exact ⟨by omega, by omega, by omega⟩ | omega | (simp only [List.length_append, List.length_cons, List.length_nil]; omega) | (subst_vars; omega)), (by first | assumption | exact Ow.divw64 (by omega) (by omega) | exact Ow.mul0 ⟨by omega, by omega⟩ | exact Ow.mul1 ⟨by omega, by omega⟩ | exact Ow.shl0 (by omega) (by omega) (by omega) | exact ⟨by omega, by omega⟩ | exact ⟨by omega, by omega, by omega⟩ | omega | (simp only [List.length_append, List.length_cons, List.length_nil]; omega) | (subst_vars; omega)), ?_⟩
      refine for_range (lo := 0) (fun ixv σ2 H2 => ∃ (co : Int) (nu : Int) (v_8 : Option V) (v_9 : Option V), σ2 = [some (.int (width)), some (.int (high)), some (.int (low)), some (.int (word)), some (.ref rows), some (.int (guess)), some (.int (co)), some (.int (nu)), v_8, v_9] ∧ Same H H2 ∧ (rs.drop ixv = Ow.grows word low (width.toNat - ixv) co) ∧ (nu = Ow.gnum (rs.take ixv)) ∧ True) ⟨high, 0, _, _, rfl, (Same.refl _), (by first | (subst_vars; rfl) | rfl), (by first | (subst_vars; rfl) | rfl), trivial⟩ ?_ ?_
      · rintro i _ Hn h2 ⟨co, nu, _, _, rfl, h3, h4, h5, _⟩
        refine Ow.gturn (fun l_k h_l_k => ?_)
        have hd := (by assumption : rs.drop i = _)
        have hi : i < width.toNat := by omega
        have ek : (width - 1 - l_k).toNat = width.toNat - 1 - i := by omega
        have b1 := Ow.pow2_le64 (w := width - 1 - l_k) (by omega)
        refine ⟨_, rfl, ?_⟩
        refine ⟨_, rfl, ?_⟩
        refine Ow.ixrow (i := l_k) (SqL.of (h3 _ _ c8)) (Ow.Rws.same h3 rc8) (by first | assumption | exact Ow.divw64 (by omega) (by omega) | exact Ow.mul0 ⟨by omega, by omega⟩ | exact Ow.mul1 ⟨by omega, by omega⟩ | exact Ow.shl0 (by omega) (by omega) (by omega) | exact ⟨by omega, by omega⟩ | exact ⟨by omega, by omega, by omega⟩ | omega | (simp only [List.length_append, List.length_cons, List.length_nil]; omega) | (subst_vars; omega)) (by rw [c9, Ow.grows_len]; omega) (fun tp r h_r h_tp => ?_)
        refine ⟨_, rfl, ?_⟩
        refine ⟨_, rfl, ?_⟩
        refine ⟨_, rfl, ?_⟩
        refine ⟨_, _, rfl, rfl, ?_⟩
        refine ⟨_, rfl, ?_⟩
        refine ⟨_, _, rfl, rfl, ?_⟩
        refine ⟨_, rfl, rfl, (by first | assumption | exact Ow.divw64 (by omega) (by omega) | exact Ow.mul0 ⟨by omega, by omega⟩ | exact Ow.mul1 ⟨by omega, by omega⟩ | exact Ow.shl0 (by omega) (by omega) (by omega) | exact ⟨by omega, by omega⟩ | exact ⟨by omega, by omega, by omega⟩ | omega | (simp only [List.length_append, List.length_cons, List.length_nil]; omega) | (subst_vars; omega)), fun B h_B h0_B => ?_⟩
        refine ⟨_, _, rfl, rfl, (by first | assumption | exact Ow.divw64 (by omega) (by omega) | exact Ow.mul0 ⟨by omega, by omega⟩ | exact Ow.mul1 ⟨by omega, by omega⟩ | exact Ow.shl0 (by omega) (by omega) (by omega) | exact ⟨by omega, by omega⟩ | exact ⟨by omega, by omega, by omega⟩ | omega | (simp only [List.length_append, List.length_cons, List.length_nil]; omega) | (subst_vars; omega)), fun q h_q => ?_⟩
        refine ⟨_, _, rfl, rfl, (by first | assumption | exact Ow.divw64 (by omega) (by omega) | exact Ow.mul0 ⟨by omega, by omega⟩ | exact Ow.mul1 ⟨by omega, by omega⟩ | exact Ow.shl0 (by omega) (by omega) (by omega) | exact ⟨by omega, by omega⟩ | exact ⟨by omega, by omega, by omega⟩ | omega | (simp only [List.length_append, List.length_cons, List.length_nil]; omega) | (subst_vars; omega)), fun r_2 h_r_2 h0_r_2 h1_r_2 => ?_⟩
        refine ⟨_, rfl, ?_⟩
        refine ⟨_, _, _, _, _, _, rfl, h_tp, (by first | assumption | (have g := (Ow.grows_at' hd h_l_k hi h_r).1; unfold Ow.gstep at g; rw [← ek, ← h_B, ← h_q, ← h_r_2] at g; split at g <;> (subst g; dsimp only; omega))), fun Hn_2 h6 => ?_⟩
        refine ⟨_, rfl, ?_⟩
        refine iteF ?_
        refine ⟨_, rfl, ?_⟩
        refine ⟨_, rfl, ?_⟩
        refine Ow.ixrow (i := l_k) (SqL.of (h6 _ _ (h3 _ _ c8))) (Ow.Rws.same h6 (Ow.Rws.same h3 rc8)) (by first | assumption | exact Ow.divw64 (by omega) (by omega) | exact Ow.mul0 ⟨by omega, by omega⟩ | exact Ow.mul1 ⟨by omega, by omega⟩ | exact Ow.shl0 (by omega) (by omega) (by omega) | exact ⟨by omega, by omega⟩ | exact ⟨by omega, by omega, by omega⟩ | omega | (simp only [List.length_append, List.length_cons, List.length_nil]; omega) | (subst_vars; omega)) (by rw [c9, Ow.grows_len]; omega) (fun tp_2 r_3 h_r_3 h_tp_2 => ?_)
        obtain rfl : r = r_3 := Option.some.inj (h_r.symm.trans h_r_3)
        refine ⟨_, _, _, _, rfl, rfl, (SqT.of h_tp_2), (by first | rfl | decide), ?_⟩
        refine ⟨_, rfl, ?_⟩
        refine ⟨_, _, rfl, rfl, (by first | assumption | exact Ow.divw64 (by omega) (by omega) | exact Ow.mul0 ⟨by omega, by omega⟩ | exact Ow.mul1 ⟨by omega, by omega⟩ | exact Ow.shl0 (by omega) (by omega) (by omega) | exact ⟨by omega, by omega⟩ | exact ⟨by omega, by omega, by omega⟩ | omega | (simp only [List.length_append, List.length_cons, List.length_nil]; omega) | (subst_vars; omega)), fun m h_m => ?_⟩
        refine ⟨_, rfl, ?_⟩
        refine ⟨_, rfl, ?_⟩
        refine Ow.ixrow (i := l_k) (SqL.of (h6 _ _ (h3 _ _ c8))) (Ow.Rws.same h6 (Ow.Rws.same h3 rc8)) (by first | assumption | exact Ow.divw64 (by omega) (by omega) | exact Ow.mul0 ⟨by omega, by omega⟩ | exact Ow.mul1 ⟨by omega, by omega⟩ | exact Ow.shl0 (by omega) (by omega) (by omega) | exact ⟨by omega, by omega⟩ | exact ⟨by omega, by omega, by omega⟩ | omega | (simp only [List.length_append, List.length_cons, List.length_nil]; omega) | (subst_vars; omega)) (by rw [c9, Ow.grows_len]; omega) (fun tp_3 r_4 h_r_4 h_tp_3 => ?_)
        obtain rfl : r = r_4 := Option.some.inj (h_r.symm.trans h_r_4)
        refine ⟨_, _, _, _, rfl, rfl, (SqT.of h_tp_3), (by first | rfl | decide), ?_⟩
        refine ⟨_, _, rfl, rfl, ?_⟩
        refine ⟨_, rfl, fun l_number h_l_number => ?_⟩
        exact ⟨r.2, l_number, _, _, rfl, (h3.trans h6), (by first | exact (Ow.grows_at' hd h_l_k hi h_r).2 | (have e := Ow.gnum_turn' h_l_k h_r; omega)), (by first | exact (Ow.grows_at' hd h_l_k hi h_r).2 | (have e := Ow.gnum_turn' h_l_k h_r; omega)), trivial⟩
      · rintro _ Hn_3 ⟨co_2, nu_2, _, _, rfl, h7, h8, h9, _⟩
        have hall := h9
        rw [show width.toNat = rs.length by rw [c9, Ow.grows_len], List.take_length, c9] at hall
        refine ⟨_, rfl, ?_⟩
        refine ⟨_, rfl, rfl, (by first | assumption | exact Ow.divw64 (by omega) (by omega) | exact Ow.mul0 ⟨by omega, by omega⟩ | exact Ow.mul1 ⟨by omega, by omega⟩ | exact Ow.shl0 (by omega) (by omega) (by omega) | exact ⟨by omega, by omega⟩ | exact ⟨by omega, by omega, by omega⟩ | omega | (simp only [List.length_append, List.length_cons, List.length_nil]; omega) | (subst_vars; omega)), fun B_2 h_B_2 h0_B_2 => ?_⟩
        refine ⟨_, _, rfl, rfl, ?_⟩
        refine ⟨_, rfl, ?_⟩
        refine ⟨_, rfl, ?_⟩
        refine ⟨_, rfl, rfl, (by first | assumption | exact Ow.divw64 (by omega) (by omega) | exact Ow.mul0 ⟨by omega, by omega⟩ | exact Ow.mul1 ⟨by omega, by omega⟩ | exact Ow.shl0 (by omega) (by omega) (by omega) | exact ⟨by omega, by omega⟩ | exact ⟨by omega, by omega, by omega⟩ | omega | (simp only [List.length_append, List.length_cons, List.length_nil]; omega) | (subst_vars; omega)), fun B_3 h_B_3 h0_B_3 => ?_⟩
        refine ⟨_, _, rfl, rfl, (by first | assumption | exact Ow.divw64 (by omega) (by omega) | exact Ow.mul0 ⟨by omega, by omega⟩ | exact Ow.mul1 ⟨by omega, by omega⟩ | exact Ow.shl0 (by omega) (by omega) (by omega) | exact ⟨by omega, by omega⟩ | exact ⟨by omega, by omega, by omega⟩ | omega | (simp only [List.length_append, List.length_cons, List.length_nil]; omega) | (subst_vars; omega)), fun m_2 h_m_2 => ?_⟩
        refine ⟨_, rfl, ?_⟩
        refine ⟨_, _, rfl, rfl, ?_⟩
        refine ⟨_, rfl, ?_⟩
        refine ⟨_, _, rfl, rfl, (by first | assumption | exact Ow.divw64 (by omega) (by omega) | exact Ow.mul0 ⟨by omega, by omega⟩ | exact Ow.mul1 ⟨by omega, by omega⟩ | exact Ow.shl0 (by omega) (by omega) (by omega) | exact ⟨by omega, by omega⟩ | exact ⟨by omega, by omega, by omega⟩ | omega | (simp only [List.length_append, List.length_cons, List.length_nil]; omega) | (subst_vars; omega)), fun q_2 h_q_2 => ?_⟩
        refine ⟨_, _, rfl, ?_⟩
        refine ⟨_, rfl, fun m_3 h_m_3 => ?_⟩
        have hm_m_3 := Ow.min_ite h_m_3
        refine ⟨_, rfl, ?_⟩
        refine ⟨_, rfl, ?_⟩
        refine ⟨rfl, ?_⟩
        refine ⟨_, rfl, ?_⟩
        refine Ow.ifeqi (fun h10 => ?_) (fun h10 => ?_)
        · refine ⟨_, rfl, ?_⟩
          refine ⟨_, rfl, ?_⟩
          refine ⟨rfl, ?_⟩
          refine Ow.eqeqi (by first | assumption | exact Ow.divw64 (by omega) (by omega) | exact Ow.mul0 ⟨by omega, by omega⟩ | exact Ow.mul1 ⟨by omega, by omega⟩ | exact Ow.shl0 (by omega) (by omega) (by omega) | exact ⟨by omega, by omega⟩ | exact ⟨by omega, by omega, by omega⟩ | omega | (simp only [List.length_append, List.length_cons, List.length_nil]; omega) | (subst_vars; omega)) ?_
          exact kont _ h7
        · exact ((by first | assumption | exact Ow.divw64 (by omega) (by omega) | exact Ow.mul0 ⟨by omega, by omega⟩ | exact Ow.mul1 ⟨by omega, by omega⟩ | exact Ow.shl0 (by omega) (by omega) (by omega) | exact ⟨by omega, by omega⟩ | exact ⟨by omega, by omega, by omega⟩ | omega | (simp only [List.length_append, List.length_cons, List.length_nil]; omega) | (subst_vars; omega) | (have := congrArg List.length c9; rw [Ow.grows_len] at this; omega)) : False).elim
theorem ok_law (T : Tx K mg) : FnOk P w K mg base CX0 6 T.d_law.f T.d_law.fd ["_law_script"] (sp_law K) := by
  refine T.d_law.F.ok sc_law (fun vs H Q E h => ?_) (fun cdv A outer s H vs Q E hr h => ?_)
  · obtain ⟨script, ns, rfl, _⟩ := h
    rfl
  · obtain ⟨script, ns, rfl, c0, c1, kont⟩ := h
    refine ⟨_, (pss_cons (ps_for PassesOwn.never rfl (pi_list (pe_op op_cat (pe_slice sl_list (pv 0) po_none (po_some pe_int)) (pe_lst (pa_cons (Ow.pe_nmi (pe_callB call_len_seq (by rfl) T.z_len (by decide +kernel) (pa_cons (pv 0) pa_nil))) pa_nil)))) (pg_name (i := 1) sc_law.nd rfl (Or.inl rfl)) (pss_cons (ps_asg (pe_call (Ow.ok_l_case T) (hr.mono (by decide : 2 ≤ 5)) (by rfl) T.d_l_case.m T.d_l_case.F.kp T.d_l_case.b .nil pass0 (pa_cons (pv 1) pa_nil)) (pg_tup rfl (pgs_cons (pg_name (i := 2) sc_law.nd rfl (Or.inl rfl)) (pgs_cons (pg_name (i := 3) sc_law.nd rfl (Or.inl rfl)) (pgs_cons (pg_name (i := 4) sc_law.nd rfl (Or.inl rfl)) (pgs_cons (pg_name (i := 5) sc_law.nd rfl (Or.inl rfl)) (pgs_cons (pg_name (i := 6) sc_law.nd rfl (Or.inl rfl)) pgs_nil)))))))
        (pss_cons (ps_if (pt_cmpR op_eq (pv 6) pe_int (nomark _)) (pss_cons (ps_set (i := 7) sc_law.nd rfl (Or.inl rfl) (pe_call (Ow.ok_guess_of T) (hr.mono (by decide : 5 ≤ 5)) (by rfl) T.d_guess_of.m T.d_guess_of.F.kp T.d_guess_of.b .nil pass0 (pa_cons (pv 2) (pa_cons (pv 3) (pa_cons (pv 4) (pa_cons (pv 5) pa_nil))))))
        (pss_one (ps_set (i := 8) sc_law.nd rfl (Or.inl rfl) (pe_call (Ow.ok_guess_rows T) (hr.mono (by decide : 4 ≤ 5)) (by rfl) T.d_guess_rows.m T.d_guess_rows.F.kp T.d_guess_rows.b .nil pass0 (pa_cons (pv 2) (pa_cons (pv 3) (pa_cons (pv 4) (pa_cons (pv 5) pa_nil)))))))) (pss_cons (ps_set (i := 8) sc_law.nd rfl (Or.inl rfl) (pe_call (Ow.ok_guess_rows T) (hr.mono (by decide : 4 ≤ 5)) (by rfl) T.d_guess_rows.m T.d_guess_rows.F.kp T.d_guess_rows.b .nil pass0 (pa_cons (pv 2) (pa_cons (pv 3) (pa_cons (pv 4) (pa_cons (pv 5) pa_nil))))))
        (pss_one (ps_set (i := 7) sc_law.nd rfl (Or.inl rfl) (pe_call (Ow.ok_guess_of T) (hr.mono (by decide : 5 ≤ 5)) (by rfl) T.d_guess_of.m T.d_guess_of.F.kp T.d_guess_of.b .nil pass0 (pa_cons (pv 2) (pa_cons (pv 3) (pa_cons (pv 4) (pa_cons (pv 5) pa_nil)))))))))
        (pss_cons (ps_if (pt_not (pt_val (pe_call (Ow.ok_l_held T) (hr.mono (by decide : 3 ≤ 5)) (by rfl) T.d_l_held.m T.d_l_held.F.kp T.d_l_held.b .nil pass0 (pa_cons (pv 2) (pa_cons (pv 3) (pa_cons (pv 4) (pa_cons (pv 5) (pa_cons (pv 8) (pa_cons (pv 7) pa_nil))))))))) (pss_one (ps_ret pe_bl)) pss_nil)
        (pss_cons (ps_expr (pe_bm PySem.F.plainAttrs_list PySem.F.slot_list_append PySem.F.type_list_append mt_append (pv 8) (pa_cons (pe_tup (pa_cons pe_int (pa_cons pe_int pa_nil))) pa_nil)))
        (pss_one (ps_if (pt_cmpR (Ow.op_neR hr.units Ow.g2) (pe_call (Ow.ok_guess_rows T) (hr.mono (by decide : 4 ≤ 5)) (by rfl) T.d_guess_rows.m T.d_guess_rows.F.kp T.d_guess_rows.b .nil pass0 (pa_cons (pv 2) (pa_cons (pv 3) (pa_cons (pv 4) (pa_cons (pv 5) pa_nil))))) (pe_slice sl_list (pv 8) po_none (po_some (Ow.pe_lit (-1) (pe_un un_neg pe_int)))) (nomark _)) (pss_one (ps_ret pe_bl)) pss_nil)))))))
        (pss_one (ps_ret pe_bl))), ?_⟩
    refine ⟨_, rfl, ?_⟩
    refine ⟨_, rfl, ?_⟩
    refine ⟨_, _, rfl, c0, fun p h_p => ?_⟩
    refine ⟨_, rfl, ?_⟩
    refine ⟨_, _, rfl, .inl (Ow.seq (Ow.same_new h_p) c0), ?_⟩
    refine ⟨_, rfl, fun len h_len => ?_⟩
    rw [List.length_map] at h_len
    refine ⟨by show 1 ≤ sizeLine; decide, fun p_2 h_p_2 => ?_⟩
    refine ⟨_, _, _, _, rfl, rfl, (Ow.at_new h_p_2 (Ow.sl_take (xs := ns) (k := 8) (by decide))), upd_same, Ow.szc (n := 4000) (xs := (ns.take 8)) (ys := [len]) (by simp only [List.length_take, List.length_cons, List.length_nil]; omega) (by decide), fun p_3 h_p_3 => ?_⟩
    refine ⟨_, rfl, ⟨_, (SqL.of (Ow.cat_at (xs := (ns.take 8)) (ys := [len])))⟩, ?_⟩
    refine for_list (K := K) (a := p_3) (xs := (((ns.take 8) ++ [len]).map V.int)) (fun ixv σ2 H2 => ∃ (v_1 : Option V) (v_2 : Option V) (v_3 : Option V) (v_4 : Option V) (v_5 : Option V) (v_6 : Option V) (v_7 : Option V) (v_8 : Option V), σ2 = [some (.ref script), v_1, v_2, v_3, v_4, v_5, v_6, v_7, v_8] ∧ Same H H2 ∧ H2 p_3 = some (.lst (((ns.take 8) ++ [len]).map V.int)) ∧ True) ⟨_, _, _, _, _, _, _, _, rfl, (((Ow.same_new h_p).trans (Ow.same_new h_p_2)).trans (Ow.same_new h_p_3)), (Ow.cat_at (xs := (ns.take 8)) (ys := [len])), trivial⟩ (fun i σ2 H2 _ hz => ?_) ?_ ?_
    · obtain ⟨_, _, _, _, _, _, _, _, rfl, h1, h2, _⟩ := hz
      exact (SqL.of h2)
    · rintro i xit _ Hn h3 ⟨_, _, _, _, _, _, _, _, rfl, h4, h5, _⟩
      obtain ⟨l_cell, rfl, h_l_cell⟩ := Ow.ints_get (xs := ((ns.take 8) ++ [len])) h3
      refine ⟨_, rfl, ?_⟩
      refine ⟨_, rfl, fun width high low word f h6 h7 h8 h9 h10 h11 h12 h13 p_4 Hn_2 h14 h15 h16 => ?_⟩
      refine ⟨_, _, rfl, (SqT.of h16), rfl, ?_⟩
      refine ⟨_, _, rfl, ?_⟩
      refine ⟨_, _, rfl, ?_⟩
      refine ⟨_, _, rfl, ?_⟩
      refine ⟨_, _, rfl, ?_⟩
      refine ⟨_, _, rfl, ?_⟩
      refine ⟨rfl, ?_⟩
      refine ⟨_, rfl, ?_⟩
      refine ⟨rfl, ?_⟩
      refine ⟨_, rfl, ?_⟩
      refine Ow.ifeqi (fun h17 => ?_) (fun h17 => ?_)
      · refine ⟨_, rfl, ?_⟩
        refine ⟨_, rfl, ?_⟩
        refine ⟨_, rfl, ?_⟩
        refine ⟨_, rfl, ?_⟩
        refine ⟨_, _, _, _, rfl, (by first | assumption | exact Ow.divw64 (by omega) (by omega) | exact Ow.mul0 ⟨by omega, by omega⟩ | exact Ow.mul1 ⟨by omega, by omega⟩ | exact Ow.shl0 (by omega) (by omega) (by omega) | exact ⟨by omega, by omega⟩ | exact ⟨by omega, by omega, by omega⟩ | omega | (simp only [List.length_append, List.length_cons, List.length_nil]; omega) | (subst_vars; omega)), (by first | assumption | exact Ow.divw64 (by omega) (by omega) | exact Ow.mul0 ⟨by omega, by omega⟩ | exact Ow.mul1 ⟨by omega, by omega⟩ | exact Ow.shl0 (by omega) (by omega) (by omega) | exact ⟨by omega, by omega⟩ | exact ⟨by omega, by omega, by omega⟩ | omega | (simp only [List.length_append, List.length_cons, List.length_nil]; omega) | (subst_vars; omega)), (by first | assumption | exact Ow.divw64 (by omega) (by omega) | exact Ow.mul0 ⟨by omega, by omega⟩ | exact Ow.mul1 ⟨by omega, by omega⟩ | exact Ow.shl0 (by omega) (by omega) (by omega) | exact ⟨by omega, by omega⟩ | exact ⟨by omega, by omega, by omega⟩ | omega | (simp only [List.length_append, List.length_cons, List.length_nil]; omega) | (subst_vars; omega)), (by first | assumption | exact Ow.divw64 (by omega) (by omega) | exact Ow.mul0 ⟨by omega, by omega⟩ | exact Ow.mul1 ⟨by omega, by omega⟩ | exact Ow.shl0 (by omega) (by omega) (by omega) | exact ⟨by omega, by omega⟩ | exact ⟨by omega, by omega, by omega⟩ | omega | (simp only [List.length_append, List.length_cons, List.length_nil]; omega) | (subst_vars; omega)), (by first | assumption | exact Ow.divw64 (by omega) (by omega) | exact Ow.mul0 ⟨by omega, by omega⟩ | exact Ow.mul1 ⟨by omega, by omega⟩ | exact Ow.shl0 (by omega) (by omega) (by omega) | exact ⟨by omega, by omega⟩ | exact ⟨by omega, by omega, by omega⟩ | omega | (simp only [List.length_append, List.length_cons, List.length_nil]; omega) | (subst_vars; omega)), (by first | assumption | exact Ow.divw64 (by omega) (by omega) | exact Ow.mul0 ⟨by omega, by omega⟩ | exact Ow.mul1 ⟨by omega, by omega⟩ | exact Ow.shl0 (by omega) (by omega) (by omega) | exact ⟨by omega, by omega⟩ | exact ⟨by omega, by omega, by omega⟩ | omega | (simp only [List.length_append, List.length_cons, List.length_nil]; omega) | (subst_vars; omega)), (by first | assumption | exact Ow.divw64 (by omega) (by omega) | exact Ow.mul0 ⟨by omega, by omega⟩ | exact Ow.mul1 ⟨by omega, by omega⟩ | exact Ow.shl0 (by omega) (by omega) (by omega) | exact ⟨by omega, by omega⟩ | exact ⟨by omega, by omega, by omega⟩ | omega | (simp only [List.length_append, List.length_cons, List.length_nil]; omega) | (subst_vars; omega)), (by first | assumption | exact Ow.divw64 (by omega) (by omega) | exact Ow.mul0 ⟨by omega, by omega⟩ | exact Ow.mul1 ⟨by omega, by omega⟩ | exact Ow.shl0 (by omega) (by omega) (by omega) | exact ⟨by omega, by omega⟩ | exact ⟨by omega, by omega, by omega⟩ | omega | (simp only [List.length_append, List.length_cons, List.length_nil]; omega) | (subst_vars; omega)), fun l_guess h18 Hn_3 h19 => ?_⟩
        refine ⟨_, rfl, ?_⟩
        refine ⟨_, rfl, ?_⟩
        refine ⟨_, rfl, ?_⟩
        refine ⟨_, rfl, ?_⟩
        refine ⟨_, _, _, _, rfl, (by first | assumption | exact Ow.divw64 (by omega) (by omega) | exact Ow.mul0 ⟨by omega, by omega⟩ | exact Ow.mul1 ⟨by omega, by omega⟩ | exact Ow.shl0 (by omega) (by omega) (by omega) | exact ⟨by omega, by omega⟩ | exact ⟨by omega, by omega, by omega⟩ | omega | (simp only [List.length_append, List.length_cons, List.length_nil]; omega) | (subst_vars; omega)), (by first | assumption | exact Ow.divw64 (by omega) (by omega) | exact Ow.mul0 ⟨by omega, by omega⟩ | exact Ow.mul1 ⟨by omega, by omega⟩ | exact Ow.shl0 (by omega) (by omega) (by omega) | exact ⟨by omega, by omega⟩ | exact ⟨by omega, by omega, by omega⟩ | omega | (simp only [List.length_append, List.length_cons, List.length_nil]; omega) | (subst_vars; omega)), (by first | assumption | exact Ow.divw64 (by omega) (by omega) | exact Ow.mul0 ⟨by omega, by omega⟩ | exact Ow.mul1 ⟨by omega, by omega⟩ | exact Ow.shl0 (by omega) (by omega) (by omega) | exact ⟨by omega, by omega⟩ | exact ⟨by omega, by omega, by omega⟩ | omega | (simp only [List.length_append, List.length_cons, List.length_nil]; omega) | (subst_vars; omega)), (by first | assumption | exact Ow.divw64 (by omega) (by omega) | exact Ow.mul0 ⟨by omega, by omega⟩ | exact Ow.mul1 ⟨by omega, by omega⟩ | exact Ow.shl0 (by omega) (by omega) (by omega) | exact ⟨by omega, by omega⟩ | exact ⟨by omega, by omega, by omega⟩ | omega | (simp only [List.length_append, List.length_cons, List.length_nil]; omega) | (subst_vars; omega)), (by first | assumption | exact Ow.divw64 (by omega) (by omega) | exact Ow.mul0 ⟨by omega, by omega⟩ | exact Ow.mul1 ⟨by omega, by omega⟩ | exact Ow.shl0 (by omega) (by omega) (by omega) | exact ⟨by omega, by omega⟩ | exact ⟨by omega, by omega, by omega⟩ | omega | (simp only [List.length_append, List.length_cons, List.length_nil]; omega) | (subst_vars; omega)), (by first | assumption | exact Ow.divw64 (by omega) (by omega) | exact Ow.mul0 ⟨by omega, by omega⟩ | exact Ow.mul1 ⟨by omega, by omega⟩ | exact Ow.shl0 (by omega) (by omega) (by omega) | exact ⟨by omega, by omega⟩ | exact ⟨by omega, by omega, by omega⟩ | omega | (simp only [List.length_append, List.length_cons, List.length_nil]; omega) | (subst_vars; omega)), (by first | assumption | exact Ow.divw64 (by omega) (by omega) | exact Ow.mul0 ⟨by omega, by omega⟩ | exact Ow.mul1 ⟨by omega, by omega⟩ | exact Ow.shl0 (by omega) (by omega) (by omega) | exact ⟨by omega, by omega⟩ | exact ⟨by omega, by omega, by omega⟩ | omega | (simp only [List.length_append, List.length_cons, List.length_nil]; omega) | (subst_vars; omega)), (by first | assumption | exact Ow.divw64 (by omega) (by omega) | exact Ow.mul0 ⟨by omega, by omega⟩ | exact Ow.mul1 ⟨by omega, by omega⟩ | exact Ow.shl0 (by omega) (by omega) (by omega) | exact ⟨by omega, by omega⟩ | exact ⟨by omega, by omega, by omega⟩ | omega | (simp only [List.length_append, List.length_cons, List.length_nil]; omega) | (subst_vars; omega)), fun rs h20 p_5 Hn_4 vs h21 h22 h23 h24 => ?_⟩
        refine ⟨_, rfl, ?_⟩
        refine ⟨_, rfl, ?_⟩
        refine ⟨_, rfl, ?_⟩
        refine ⟨_, rfl, ?_⟩
        refine ⟨_, rfl, ?_⟩
        refine ⟨_, rfl, ?_⟩
        refine ⟨_, _, _, _, _, _, _, _, rfl, (by first | assumption | exact Ow.divw64 (by omega) (by omega) | exact Ow.mul0 ⟨by omega, by omega⟩ | exact Ow.mul1 ⟨by omega, by omega⟩ | exact Ow.shl0 (by omega) (by omega) (by omega) | exact ⟨by omega, by omega⟩ | exact ⟨by omega, by omega, by omega⟩ | omega | (simp only [List.length_append, List.length_cons, List.length_nil]; omega) | (subst_vars; omega)), (by first | assumption | exact Ow.divw64 (by omega) (by omega) | exact Ow.mul0 ⟨by omega, by omega⟩ | exact Ow.mul1 ⟨by omega, by omega⟩ | exact Ow.shl0 (by omega) (by omega) (by omega) | exact ⟨by omega, by omega⟩ | exact ⟨by omega, by omega, by omega⟩ | omega | (simp only [List.length_append, List.length_cons, List.length_nil]; omega) | (subst_vars; omega)), (by first | assumption | exact Ow.divw64 (by omega) (by omega) | exact Ow.mul0 ⟨by omega, by omega⟩ | exact Ow.mul1 ⟨by omega, by omega⟩ | exact Ow.shl0 (by omega) (by omega) (by omega) | exact ⟨by omega, by omega⟩ | exact ⟨by omega, by omega, by omega⟩ | omega | (simp only [List.length_append, List.length_cons, List.length_nil]; omega) | (subst_vars; omega)), (by first | assumption | exact Ow.divw64 (by omega) (by omega) | exact Ow.mul0 ⟨by omega, by omega⟩ | exact Ow.mul1 ⟨by omega, by omega⟩ | exact Ow.shl0 (by omega) (by omega) (by omega) | exact ⟨by omega, by omega⟩ | exact ⟨by omega, by omega, by omega⟩ | omega | (simp only [List.length_append, List.length_cons, List.length_nil]; omega) | (subst_vars; omega)), (by first | assumption | exact Ow.divw64 (by omega) (by omega) | exact Ow.mul0 ⟨by omega, by omega⟩ | exact Ow.mul1 ⟨by omega, by omega⟩ | exact Ow.shl0 (by omega) (by omega) (by omega) | exact ⟨by omega, by omega⟩ | exact ⟨by omega, by omega, by omega⟩ | omega | (simp only [List.length_append, List.length_cons, List.length_nil]; omega) | (subst_vars; omega)), (by first | assumption | exact Ow.divw64 (by omega) (by omega) | exact Ow.mul0 ⟨by omega, by omega⟩ | exact Ow.mul1 ⟨by omega, by omega⟩ | exact Ow.shl0 (by omega) (by omega) (by omega) | exact ⟨by omega, by omega⟩ | exact ⟨by omega, by omega, by omega⟩ | omega | (simp only [List.length_append, List.length_cons, List.length_nil]; omega) | (subst_vars; omega)), (by first | assumption | exact Ow.divw64 (by omega) (by omega) | exact Ow.mul0 ⟨by omega, by omega⟩ | exact Ow.mul1 ⟨by omega, by omega⟩ | exact Ow.shl0 (by omega) (by omega) (by omega) | exact ⟨by omega, by omega⟩ | exact ⟨by omega, by omega, by omega⟩ | omega | (simp only [List.length_append, List.length_cons, List.length_nil]; omega) | (subst_vars; omega)), (by first | assumption | exact Ow.divw64 (by omega) (by omega) | exact Ow.mul0 ⟨by omega, by omega⟩ | exact Ow.mul1 ⟨by omega, by omega⟩ | exact Ow.shl0 (by omega) (by omega) (by omega) | exact ⟨by omega, by omega⟩ | exact ⟨by omega, by omega, by omega⟩ | omega | (simp only [List.length_append, List.length_cons, List.length_nil]; omega) | (subst_vars; omega)), ⟨h23, h24⟩, (by first | assumption | exact Ow.divw64 (by omega) (by omega) | exact Ow.mul0 ⟨by omega, by omega⟩ | exact Ow.mul1 ⟨by omega, by omega⟩ | exact Ow.shl0 (by omega) (by omega) (by omega) | exact ⟨by omega, by omega⟩ | exact ⟨by omega, by omega, by omega⟩ | omega | (simp only [List.length_append, List.length_cons, List.length_nil]; omega) | (subst_vars; omega)), (by first | assumption | exact Ow.divw64 (by omega) (by omega) | exact Ow.mul0 ⟨by omega, by omega⟩ | exact Ow.mul1 ⟨by omega, by omega⟩ | exact Ow.shl0 (by omega) (by omega) (by omega) | exact ⟨by omega, by omega⟩ | exact ⟨by omega, by omega, by omega⟩ | omega | (simp only [List.length_append, List.length_cons, List.length_nil]; omega) | (subst_vars; omega)), fun Hn_5 h25 => ?_⟩
        refine ⟨_, rfl, ?_⟩
        refine iteF ?_
        refine ⟨_, rfl, ?_⟩
        refine ⟨.inl ⟨rfl, _, (SqL.of (h25 _ _ h23))⟩, ?_⟩
        refine ⟨by show 2 ≤ sizeLine; decide, fun p_6 h_p_6 => ?_⟩
        refine ⟨_, _, _, rfl, rfl, (Ow.at_new h_p_6 (h25 _ _ h23)), (Ow.szl (by rw [(h24).len]; subst_vars; rw [Ow.grows_len]; omega)), ?_⟩
        refine ⟨_, rfl, ?_⟩
        refine ⟨_, rfl, ?_⟩
        refine ⟨_, rfl, ?_⟩
        refine ⟨_, rfl, ?_⟩
        refine ⟨_, _, _, _, rfl, (by first | assumption | exact Ow.divw64 (by omega) (by omega) | exact Ow.mul0 ⟨by omega, by omega⟩ | exact Ow.mul1 ⟨by omega, by omega⟩ | exact Ow.shl0 (by omega) (by omega) (by omega) | exact ⟨by omega, by omega⟩ | exact ⟨by omega, by omega, by omega⟩ | omega | (simp only [List.length_append, List.length_cons, List.length_nil]; omega) | (subst_vars; omega)), (by first | assumption | exact Ow.divw64 (by omega) (by omega) | exact Ow.mul0 ⟨by omega, by omega⟩ | exact Ow.mul1 ⟨by omega, by omega⟩ | exact Ow.shl0 (by omega) (by omega) (by omega) | exact ⟨by omega, by omega⟩ | exact ⟨by omega, by omega, by omega⟩ | omega | (simp only [List.length_append, List.length_cons, List.length_nil]; omega) | (subst_vars; omega)), (by first | assumption | exact Ow.divw64 (by omega) (by omega) | exact Ow.mul0 ⟨by omega, by omega⟩ | exact Ow.mul1 ⟨by omega, by omega⟩ | exact Ow.shl0 (by omega) (by omega) (by omega) | exact ⟨by omega, by omega⟩ | exact ⟨by omega, by omega, by omega⟩ | omega | (simp only [List.length_append, List.length_cons, List.length_nil]; omega) | (subst_vars; omega)), (by first | assumption | exact Ow.divw64 (by omega) (by omega) | exact Ow.mul0 ⟨by omega, by omega⟩ | exact Ow.mul1 ⟨by omega, by omega⟩ | exact Ow.shl0 (by omega) (by omega) (by omega) | exact ⟨by omega, by omega⟩ | exact ⟨by omega, by omega, by omega⟩ | omega | (simp only [List.length_append, List.length_cons, List.length_nil]; omega) | (subst_vars; omega)), (by first | assumption | exact Ow.divw64 (by omega) (by omega) | exact Ow.mul0 ⟨by omega, by omega⟩ | exact Ow.mul1 ⟨by omega, by omega⟩ | exact Ow.shl0 (by omega) (by omega) (by omega) | exact ⟨by omega, by omega⟩ | exact ⟨by omega, by omega, by omega⟩ | omega | (simp only [List.length_append, List.length_cons, List.length_nil]; omega) | (subst_vars; omega)), (by first | assumption | exact Ow.divw64 (by omega) (by omega) | exact Ow.mul0 ⟨by omega, by omega⟩ | exact Ow.mul1 ⟨by omega, by omega⟩ | exact Ow.shl0 (by omega) (by omega) (by omega) | exact ⟨by omega, by omega⟩ | exact ⟨by omega, by omega, by omega⟩ | omega | (simp only [List.length_append, List.length_cons, List.length_nil]; omega) | (subst_vars; omega)), (by first | assumption | exact Ow.divw64 (by omega) (by omega) | exact Ow.mul0 ⟨by omega, by omega⟩ | exact Ow.mul1 ⟨by omega, by omega⟩ | exact Ow.shl0 (by omega) (by omega) (by omega) | exact ⟨by omega, by omega⟩ | exact ⟨by omega, by omega, by omega⟩ | omega | (simp only [List.length_append, List.length_cons, List.length_nil]; omega) | (subst_vars; omega)), (by first | assumption | exact Ow.divw64 (by omega) (by omega) | exact Ow.mul0 ⟨by omega, by omega⟩ | exact Ow.mul1 ⟨by omega, by omega⟩ | exact Ow.shl0 (by omega) (by omega) (by omega) | exact ⟨by omega, by omega⟩ | exact ⟨by omega, by omega, by omega⟩ | omega | (simp only [List.length_append, List.length_cons, List.length_nil]; omega) | (subst_vars; omega)), fun rs_2 h26 p_7 Hn_6 vs_2 h27 h28 h29 h30 => ?_⟩
        refine ⟨_, rfl, ?_⟩
        refine ⟨_, rfl, ?_⟩
        refine ⟨by decide, ?_⟩
        refine ⟨_, rfl, ?_⟩
        refine ⟨_, _, rfl, (SqL.of (h27 _ _ upd_same)), fun p_8 h_p_8 => ?_⟩
        refine ⟨_, _, _, _, _, _, rfl, rfl, (SqL.of (Ow.at_new h_p_8 h29)), (SqL.of (Ow.slv_init)), (Ow.Rws.new h_p_8 h30), (Ow.Rws.dropLast (Ow.Rws.new h_p_8 (Ow.Rws.same h27 (Ow.Rws.snoc (r := (1, 0)) (Ow.Rws.mut (Ow.at_new h_p_6 (h25 _ _ h23)) (Ow.Rws.new h_p_6 (Ow.Rws.same h25 h24))) (Ow.at_mutT (Ow.at_new h_p_6 (h25 _ _ h23)) upd_same)))) ), ?_⟩
        refine ⟨_, rfl, ?_⟩
        refine Ow.ifnd (fun h31 => ?_) (fun h31 => ?_)
        · exact ((by first | assumption | exact Ow.divw64 (by omega) (by omega) | exact Ow.mul0 ⟨by omega, by omega⟩ | exact Ow.mul1 ⟨by omega, by omega⟩ | exact Ow.shl0 (by omega) (by omega) (by omega) | exact ⟨by omega, by omega⟩ | exact ⟨by omega, by omega, by omega⟩ | omega | (simp only [List.length_append, List.length_cons, List.length_nil]; omega) | (subst_vars; omega) | (subst_vars; simp_all [List.dropLast_concat])) : False).elim
        · exact ⟨_, _, _, _, _, _, _, _, rfl, (((Ow.same_mut (((((h4.trans h14).trans h19).trans h21).trans h25).trans (Ow.same_new h_p_6)) (Same.free ((h4.trans h14).trans h19) h22)).trans h27).trans (Ow.same_new h_p_8)), (Ow.at_new h_p_8 (h27 _ _ (Ow.at_mut (ne_of_none (h19 _ _ (h14 _ _ h5)) h22) (Ow.at_new h_p_6 (h25 _ _ (h21 _ _ (h19 _ _ (h14 _ _ h5)))))))), trivial⟩
      · refine ⟨_, rfl, ?_⟩
        refine ⟨_, rfl, ?_⟩
        refine ⟨_, rfl, ?_⟩
        refine ⟨_, rfl, ?_⟩
        refine ⟨_, _, _, _, rfl, (by first | assumption | exact Ow.divw64 (by omega) (by omega) | exact Ow.mul0 ⟨by omega, by omega⟩ | exact Ow.mul1 ⟨by omega, by omega⟩ | exact Ow.shl0 (by omega) (by omega) (by omega) | exact ⟨by omega, by omega⟩ | exact ⟨by omega, by omega, by omega⟩ | omega | (simp only [List.length_append, List.length_cons, List.length_nil]; omega) | (subst_vars; omega)), (by first | assumption | exact Ow.divw64 (by omega) (by omega) | exact Ow.mul0 ⟨by omega, by omega⟩ | exact Ow.mul1 ⟨by omega, by omega⟩ | exact Ow.shl0 (by omega) (by omega) (by omega) | exact ⟨by omega, by omega⟩ | exact ⟨by omega, by omega, by omega⟩ | omega | (simp only [List.length_append, List.length_cons, List.length_nil]; omega) | (subst_vars; omega)), (by first | assumption | exact Ow.divw64 (by omega) (by omega) | exact Ow.mul0 ⟨by omega, by omega⟩ | exact Ow.mul1 ⟨by omega, by omega⟩ | exact Ow.shl0 (by omega) (by omega) (by omega) | exact ⟨by omega, by omega⟩ | exact ⟨by omega, by omega, by omega⟩ | omega | (simp only [List.length_append, List.length_cons, List.length_nil]; omega) | (subst_vars; omega)), (by first | assumption | exact Ow.divw64 (by omega) (by omega) | exact Ow.mul0 ⟨by omega, by omega⟩ | exact Ow.mul1 ⟨by omega, by omega⟩ | exact Ow.shl0 (by omega) (by omega) (by omega) | exact ⟨by omega, by omega⟩ | exact ⟨by omega, by omega, by omega⟩ | omega | (simp only [List.length_append, List.length_cons, List.length_nil]; omega) | (subst_vars; omega)), (by first | assumption | exact Ow.divw64 (by omega) (by omega) | exact Ow.mul0 ⟨by omega, by omega⟩ | exact Ow.mul1 ⟨by omega, by omega⟩ | exact Ow.shl0 (by omega) (by omega) (by omega) | exact ⟨by omega, by omega⟩ | exact ⟨by omega, by omega, by omega⟩ | omega | (simp only [List.length_append, List.length_cons, List.length_nil]; omega) | (subst_vars; omega)), (by first | assumption | exact Ow.divw64 (by omega) (by omega) | exact Ow.mul0 ⟨by omega, by omega⟩ | exact Ow.mul1 ⟨by omega, by omega⟩ | exact Ow.shl0 (by omega) (by omega) (by omega) | exact ⟨by omega, by omega⟩ | exact ⟨by omega, by omega, by omega⟩ | omega | (simp only [List.length_append, List.length_cons, List.length_nil]; omega) | (subst_vars; omega)), (by first | assumption | exact Ow.divw64 (by omega) (by omega) | exact Ow.mul0 ⟨by omega, by omega⟩ | exact Ow.mul1 ⟨by omega, by omega⟩ | exact Ow.shl0 (by omega) (by omega) (by omega) | exact ⟨by omega, by omega⟩ | exact ⟨by omega, by omega, by omega⟩ | omega | (simp only [List.length_append, List.length_cons, List.length_nil]; omega) | (subst_vars; omega)), (by first | assumption | exact Ow.divw64 (by omega) (by omega) | exact Ow.mul0 ⟨by omega, by omega⟩ | exact Ow.mul1 ⟨by omega, by omega⟩ | exact Ow.shl0 (by omega) (by omega) (by omega) | exact ⟨by omega, by omega⟩ | exact ⟨by omega, by omega, by omega⟩ | omega | (simp only [List.length_append, List.length_cons, List.length_nil]; omega) | (subst_vars; omega)), fun rs_3 h32 p_9 Hn_7 vs_3 h33 h34 h35 h36 => ?_⟩
        refine ⟨_, rfl, ?_⟩
        refine ⟨_, rfl, ?_⟩
        refine ⟨_, rfl, ?_⟩
        refine ⟨_, rfl, ?_⟩
        refine ⟨_, _, _, _, rfl, (by first | assumption | exact Ow.divw64 (by omega) (by omega) | exact Ow.mul0 ⟨by omega, by omega⟩ | exact Ow.mul1 ⟨by omega, by omega⟩ | exact Ow.shl0 (by omega) (by omega) (by omega) | exact ⟨by omega, by omega⟩ | exact ⟨by omega, by omega, by omega⟩ | omega | (simp only [List.length_append, List.length_cons, List.length_nil]; omega) | (subst_vars; omega)), (by first | assumption | exact Ow.divw64 (by omega) (by omega) | exact Ow.mul0 ⟨by omega, by omega⟩ | exact Ow.mul1 ⟨by omega, by omega⟩ | exact Ow.shl0 (by omega) (by omega) (by omega) | exact ⟨by omega, by omega⟩ | exact ⟨by omega, by omega, by omega⟩ | omega | (simp only [List.length_append, List.length_cons, List.length_nil]; omega) | (subst_vars; omega)), (by first | assumption | exact Ow.divw64 (by omega) (by omega) | exact Ow.mul0 ⟨by omega, by omega⟩ | exact Ow.mul1 ⟨by omega, by omega⟩ | exact Ow.shl0 (by omega) (by omega) (by omega) | exact ⟨by omega, by omega⟩ | exact ⟨by omega, by omega, by omega⟩ | omega | (simp only [List.length_append, List.length_cons, List.length_nil]; omega) | (subst_vars; omega)), (by first | assumption | exact Ow.divw64 (by omega) (by omega) | exact Ow.mul0 ⟨by omega, by omega⟩ | exact Ow.mul1 ⟨by omega, by omega⟩ | exact Ow.shl0 (by omega) (by omega) (by omega) | exact ⟨by omega, by omega⟩ | exact ⟨by omega, by omega, by omega⟩ | omega | (simp only [List.length_append, List.length_cons, List.length_nil]; omega) | (subst_vars; omega)), (by first | assumption | exact Ow.divw64 (by omega) (by omega) | exact Ow.mul0 ⟨by omega, by omega⟩ | exact Ow.mul1 ⟨by omega, by omega⟩ | exact Ow.shl0 (by omega) (by omega) (by omega) | exact ⟨by omega, by omega⟩ | exact ⟨by omega, by omega, by omega⟩ | omega | (simp only [List.length_append, List.length_cons, List.length_nil]; omega) | (subst_vars; omega)), (by first | assumption | exact Ow.divw64 (by omega) (by omega) | exact Ow.mul0 ⟨by omega, by omega⟩ | exact Ow.mul1 ⟨by omega, by omega⟩ | exact Ow.shl0 (by omega) (by omega) (by omega) | exact ⟨by omega, by omega⟩ | exact ⟨by omega, by omega, by omega⟩ | omega | (simp only [List.length_append, List.length_cons, List.length_nil]; omega) | (subst_vars; omega)), (by first | assumption | exact Ow.divw64 (by omega) (by omega) | exact Ow.mul0 ⟨by omega, by omega⟩ | exact Ow.mul1 ⟨by omega, by omega⟩ | exact Ow.shl0 (by omega) (by omega) (by omega) | exact ⟨by omega, by omega⟩ | exact ⟨by omega, by omega, by omega⟩ | omega | (simp only [List.length_append, List.length_cons, List.length_nil]; omega) | (subst_vars; omega)), (by first | assumption | exact Ow.divw64 (by omega) (by omega) | exact Ow.mul0 ⟨by omega, by omega⟩ | exact Ow.mul1 ⟨by omega, by omega⟩ | exact Ow.shl0 (by omega) (by omega) (by omega) | exact ⟨by omega, by omega⟩ | exact ⟨by omega, by omega, by omega⟩ | omega | (simp only [List.length_append, List.length_cons, List.length_nil]; omega) | (subst_vars; omega)), fun l_guess_2 h37 Hn_8 h38 => ?_⟩
        refine ⟨_, rfl, ?_⟩
        refine ⟨_, rfl, ?_⟩
        refine ⟨_, rfl, ?_⟩
        refine ⟨_, rfl, ?_⟩
        refine ⟨_, rfl, ?_⟩
        refine ⟨_, rfl, ?_⟩
        refine ⟨_, _, _, _, _, _, _, _, rfl, (by first | assumption | exact Ow.divw64 (by omega) (by omega) | exact Ow.mul0 ⟨by omega, by omega⟩ | exact Ow.mul1 ⟨by omega, by omega⟩ | exact Ow.shl0 (by omega) (by omega) (by omega) | exact ⟨by omega, by omega⟩ | exact ⟨by omega, by omega, by omega⟩ | omega | (simp only [List.length_append, List.length_cons, List.length_nil]; omega) | (subst_vars; omega)), (by first | assumption | exact Ow.divw64 (by omega) (by omega) | exact Ow.mul0 ⟨by omega, by omega⟩ | exact Ow.mul1 ⟨by omega, by omega⟩ | exact Ow.shl0 (by omega) (by omega) (by omega) | exact ⟨by omega, by omega⟩ | exact ⟨by omega, by omega, by omega⟩ | omega | (simp only [List.length_append, List.length_cons, List.length_nil]; omega) | (subst_vars; omega)), (by first | assumption | exact Ow.divw64 (by omega) (by omega) | exact Ow.mul0 ⟨by omega, by omega⟩ | exact Ow.mul1 ⟨by omega, by omega⟩ | exact Ow.shl0 (by omega) (by omega) (by omega) | exact ⟨by omega, by omega⟩ | exact ⟨by omega, by omega, by omega⟩ | omega | (simp only [List.length_append, List.length_cons, List.length_nil]; omega) | (subst_vars; omega)), (by first | assumption | exact Ow.divw64 (by omega) (by omega) | exact Ow.mul0 ⟨by omega, by omega⟩ | exact Ow.mul1 ⟨by omega, by omega⟩ | exact Ow.shl0 (by omega) (by omega) (by omega) | exact ⟨by omega, by omega⟩ | exact ⟨by omega, by omega, by omega⟩ | omega | (simp only [List.length_append, List.length_cons, List.length_nil]; omega) | (subst_vars; omega)), (by first | assumption | exact Ow.divw64 (by omega) (by omega) | exact Ow.mul0 ⟨by omega, by omega⟩ | exact Ow.mul1 ⟨by omega, by omega⟩ | exact Ow.shl0 (by omega) (by omega) (by omega) | exact ⟨by omega, by omega⟩ | exact ⟨by omega, by omega, by omega⟩ | omega | (simp only [List.length_append, List.length_cons, List.length_nil]; omega) | (subst_vars; omega)), (by first | assumption | exact Ow.divw64 (by omega) (by omega) | exact Ow.mul0 ⟨by omega, by omega⟩ | exact Ow.mul1 ⟨by omega, by omega⟩ | exact Ow.shl0 (by omega) (by omega) (by omega) | exact ⟨by omega, by omega⟩ | exact ⟨by omega, by omega, by omega⟩ | omega | (simp only [List.length_append, List.length_cons, List.length_nil]; omega) | (subst_vars; omega)), (by first | assumption | exact Ow.divw64 (by omega) (by omega) | exact Ow.mul0 ⟨by omega, by omega⟩ | exact Ow.mul1 ⟨by omega, by omega⟩ | exact Ow.shl0 (by omega) (by omega) (by omega) | exact ⟨by omega, by omega⟩ | exact ⟨by omega, by omega, by omega⟩ | omega | (simp only [List.length_append, List.length_cons, List.length_nil]; omega) | (subst_vars; omega)), (by first | assumption | exact Ow.divw64 (by omega) (by omega) | exact Ow.mul0 ⟨by omega, by omega⟩ | exact Ow.mul1 ⟨by omega, by omega⟩ | exact Ow.shl0 (by omega) (by omega) (by omega) | exact ⟨by omega, by omega⟩ | exact ⟨by omega, by omega, by omega⟩ | omega | (simp only [List.length_append, List.length_cons, List.length_nil]; omega) | (subst_vars; omega)), ⟨(h38 _ _ h35), (Ow.Rws.same h38 h36)⟩, (by first | assumption | exact Ow.divw64 (by omega) (by omega) | exact Ow.mul0 ⟨by omega, by omega⟩ | exact Ow.mul1 ⟨by omega, by omega⟩ | exact Ow.shl0 (by omega) (by omega) (by omega) | exact ⟨by omega, by omega⟩ | exact ⟨by omega, by omega, by omega⟩ | omega | (simp only [List.length_append, List.length_cons, List.length_nil]; omega) | (subst_vars; omega)), (by first | assumption | exact Ow.divw64 (by omega) (by omega) | exact Ow.mul0 ⟨by omega, by omega⟩ | exact Ow.mul1 ⟨by omega, by omega⟩ | exact Ow.shl0 (by omega) (by omega) (by omega) | exact ⟨by omega, by omega⟩ | exact ⟨by omega, by omega, by omega⟩ | omega | (simp only [List.length_append, List.length_cons, List.length_nil]; omega) | (subst_vars; omega)), fun Hn_9 h39 => ?_⟩
        refine ⟨_, rfl, ?_⟩
        refine iteF ?_
        refine ⟨_, rfl, ?_⟩
        refine ⟨.inl ⟨rfl, _, (SqL.of (h39 _ _ (h38 _ _ h35)))⟩, ?_⟩
        refine ⟨by show 2 ≤ sizeLine; decide, fun p_10 h_p_10 => ?_⟩
        refine ⟨_, _, _, rfl, rfl, (Ow.at_new h_p_10 (h39 _ _ (h38 _ _ h35))), (Ow.szl (by rw [(h36).len]; subst_vars; rw [Ow.grows_len]; omega)), ?_⟩
        refine ⟨_, rfl, ?_⟩
        refine ⟨_, rfl, ?_⟩
        refine ⟨_, rfl, ?_⟩
        refine ⟨_, rfl, ?_⟩
        refine ⟨_, _, _, _, rfl, (by first | assumption | exact Ow.divw64 (by omega) (by omega) | exact Ow.mul0 ⟨by omega, by omega⟩ | exact Ow.mul1 ⟨by omega, by omega⟩ | exact Ow.shl0 (by omega) (by omega) (by omega) | exact ⟨by omega, by omega⟩ | exact ⟨by omega, by omega, by omega⟩ | omega | (simp only [List.length_append, List.length_cons, List.length_nil]; omega) | (subst_vars; omega)), (by first | assumption | exact Ow.divw64 (by omega) (by omega) | exact Ow.mul0 ⟨by omega, by omega⟩ | exact Ow.mul1 ⟨by omega, by omega⟩ | exact Ow.shl0 (by omega) (by omega) (by omega) | exact ⟨by omega, by omega⟩ | exact ⟨by omega, by omega, by omega⟩ | omega | (simp only [List.length_append, List.length_cons, List.length_nil]; omega) | (subst_vars; omega)), (by first | assumption | exact Ow.divw64 (by omega) (by omega) | exact Ow.mul0 ⟨by omega, by omega⟩ | exact Ow.mul1 ⟨by omega, by omega⟩ | exact Ow.shl0 (by omega) (by omega) (by omega) | exact ⟨by omega, by omega⟩ | exact ⟨by omega, by omega, by omega⟩ | omega | (simp only [List.length_append, List.length_cons, List.length_nil]; omega) | (subst_vars; omega)), (by first | assumption | exact Ow.divw64 (by omega) (by omega) | exact Ow.mul0 ⟨by omega, by omega⟩ | exact Ow.mul1 ⟨by omega, by omega⟩ | exact Ow.shl0 (by omega) (by omega) (by omega) | exact ⟨by omega, by omega⟩ | exact ⟨by omega, by omega, by omega⟩ | omega | (simp only [List.length_append, List.length_cons, List.length_nil]; omega) | (subst_vars; omega)), (by first | assumption | exact Ow.divw64 (by omega) (by omega) | exact Ow.mul0 ⟨by omega, by omega⟩ | exact Ow.mul1 ⟨by omega, by omega⟩ | exact Ow.shl0 (by omega) (by omega) (by omega) | exact ⟨by omega, by omega⟩ | exact ⟨by omega, by omega, by omega⟩ | omega | (simp only [List.length_append, List.length_cons, List.length_nil]; omega) | (subst_vars; omega)), (by first | assumption | exact Ow.divw64 (by omega) (by omega) | exact Ow.mul0 ⟨by omega, by omega⟩ | exact Ow.mul1 ⟨by omega, by omega⟩ | exact Ow.shl0 (by omega) (by omega) (by omega) | exact ⟨by omega, by omega⟩ | exact ⟨by omega, by omega, by omega⟩ | omega | (simp only [List.length_append, List.length_cons, List.length_nil]; omega) | (subst_vars; omega)), (by first | assumption | exact Ow.divw64 (by omega) (by omega) | exact Ow.mul0 ⟨by omega, by omega⟩ | exact Ow.mul1 ⟨by omega, by omega⟩ | exact Ow.shl0 (by omega) (by omega) (by omega) | exact ⟨by omega, by omega⟩ | exact ⟨by omega, by omega, by omega⟩ | omega | (simp only [List.length_append, List.length_cons, List.length_nil]; omega) | (subst_vars; omega)), (by first | assumption | exact Ow.divw64 (by omega) (by omega) | exact Ow.mul0 ⟨by omega, by omega⟩ | exact Ow.mul1 ⟨by omega, by omega⟩ | exact Ow.shl0 (by omega) (by omega) (by omega) | exact ⟨by omega, by omega⟩ | exact ⟨by omega, by omega, by omega⟩ | omega | (simp only [List.length_append, List.length_cons, List.length_nil]; omega) | (subst_vars; omega)), fun rs_4 h40 p_11 Hn_10 vs_4 h41 h42 h43 h44 => ?_⟩
        refine ⟨_, rfl, ?_⟩
        refine ⟨_, rfl, ?_⟩
        refine ⟨by decide, ?_⟩
        refine ⟨_, rfl, ?_⟩
        refine ⟨_, _, rfl, (SqL.of (h41 _ _ upd_same)), fun p_12 h_p_12 => ?_⟩
        refine ⟨_, _, _, _, _, _, rfl, rfl, (SqL.of (Ow.at_new h_p_12 h43)), (SqL.of (Ow.slv_init)), (Ow.Rws.new h_p_12 h44), (Ow.Rws.dropLast (Ow.Rws.new h_p_12 (Ow.Rws.same h41 (Ow.Rws.snoc (r := (1, 0)) (Ow.Rws.mut (Ow.at_new h_p_10 (h39 _ _ (h38 _ _ h35))) (Ow.Rws.new h_p_10 (Ow.Rws.same h39 (Ow.Rws.same h38 h36)))) (Ow.at_mutT (Ow.at_new h_p_10 (h39 _ _ (h38 _ _ h35))) upd_same)))) ), ?_⟩
        refine ⟨_, rfl, ?_⟩
        refine Ow.ifnd (fun h45 => ?_) (fun h45 => ?_)
        · exact ((by first | assumption | exact Ow.divw64 (by omega) (by omega) | exact Ow.mul0 ⟨by omega, by omega⟩ | exact Ow.mul1 ⟨by omega, by omega⟩ | exact Ow.shl0 (by omega) (by omega) (by omega) | exact ⟨by omega, by omega⟩ | exact ⟨by omega, by omega, by omega⟩ | omega | (simp only [List.length_append, List.length_cons, List.length_nil]; omega) | (subst_vars; omega) | (subst_vars; simp_all [List.dropLast_concat])) : False).elim
        · exact ⟨_, _, _, _, _, _, _, _, rfl, (((Ow.same_mut (((((h4.trans h14).trans h33).trans h38).trans h39).trans (Ow.same_new h_p_10)) (Same.free (h4.trans h14) h34)).trans h41).trans (Ow.same_new h_p_12)), (Ow.at_new h_p_12 (h41 _ _ (Ow.at_mut (ne_of_none (h14 _ _ h5) h34) (Ow.at_new h_p_10 (h39 _ _ (h38 _ _ (h33 _ _ (h14 _ _ h5)))))))), trivial⟩
    · rintro _ Hn_11 ⟨_, _, _, _, _, _, _, _, rfl, h46, h47, _⟩
      exact kont _ h46
end
def tx_mk {K : PySem.W.Frag} {h : Heap} {mg : Str → Option Value} (X : K.In h) (G : h.Ns mainGlobals mg) {f_l_drawn : Addr} {od_l_drawn an_l_drawn : Option Addr} {oc_l_drawn kV_l_drawn dc_l_drawn pm_l_drawn cd_l_drawn ct_l_drawn : Value} {sl_l_drawn : Array (Option Value)} {f_l_case : Addr} {od_l_case an_l_case : Option Addr} {oc_l_case kV_l_case dc_l_case pm_l_case cd_l_case ct_l_case : Value} {sl_l_case : Array (Option Value)} {f_is_whole : Addr} {od_is_whole an_is_whole : Option Addr} {oc_is_whole kV_is_whole dc_is_whole pm_is_whole cd_is_whole ct_is_whole : Value} {sl_is_whole : Array (Option Value)} {f_need_width : Addr} {od_need_width an_need_width : Option Addr} {oc_need_width kV_need_width dc_need_width pm_need_width cd_need_width ct_need_width : Value} {sl_need_width : Array (Option Value)} {f_need_word : Addr} {od_need_word an_need_word : Option Addr} {oc_need_word kV_need_word dc_need_word pm_need_word cd_need_word ct_need_word : Value} {sl_need_word : Array (Option Value)} {f_guess_rows : Addr} {od_guess_rows an_guess_rows : Option Addr} {oc_guess_rows kV_guess_rows dc_guess_rows pm_guess_rows cd_guess_rows ct_guess_rows : Value} {sl_guess_rows : Array (Option Value)} {f_guess_of : Addr} {od_guess_of an_guess_of : Option Addr} {oc_guess_of kV_guess_of dc_guess_of pm_guess_of cd_guess_of ct_guess_of : Value} {sl_guess_of : Array (Option Value)} {f_l_whole : Addr} {od_l_whole an_l_whole : Option Addr} {oc_l_whole kV_l_whole dc_l_whole pm_l_whole cd_l_whole ct_l_whole : Value} {sl_l_whole : Array (Option Value)} {f_l_row : Addr} {od_l_row an_l_row : Option Addr} {oc_l_row kV_l_row dc_l_row pm_l_row cd_l_row ct_l_row : Value} {sl_l_row : Array (Option Value)} {f_l_held : Addr} {od_l_held an_l_held : Option Addr} {oc_l_held kV_l_held dc_l_held pm_l_held cd_l_held ct_l_held : Value} {sl_l_held : Array (Option Value)} {f_law : Addr} {od_law an_law : Option Addr} {oc_law kV_law dc_law pm_law cd_law ct_law : Value} {sl_law : Array (Option Value)} {tk_LEAST_WIDTH : Tok} {tk_GREATEST_WIDTH : Tok}        
    (a_l_drawn : PySem.W.nsIn K mainGlobals "_law_drawn" = some (some (.ref f_l_drawn)))
    (l_l_drawn : K.lookup f_l_drawn = some ⟨oc_l_drawn, od_l_drawn, .func (PySem.W.fnOf "_law_drawn" "_law_drawn" (defArgs s_l_drawn) (defBody s_l_drawn) (defScope s_l_drawn) .none kV_l_drawn dc_l_drawn pm_l_drawn an_l_drawn cd_l_drawn ct_l_drawn), sl_l_drawn⟩)
    (c_l_drawn : PySem.W.codeIn K cd_l_drawn "_law_drawn" = true)
    (k_l_drawn : PySem.W.keepIn K (.ref f_l_drawn) = true)
    (a_l_case : PySem.W.nsIn K mainGlobals "_law_case" = some (some (.ref f_l_case)))
    (l_l_case : K.lookup f_l_case = some ⟨oc_l_case, od_l_case, .func (PySem.W.fnOf "_law_case" "_law_case" (defArgs s_l_case) (defBody s_l_case) (defScope s_l_case) .none kV_l_case dc_l_case pm_l_case an_l_case cd_l_case ct_l_case), sl_l_case⟩)
    (c_l_case : PySem.W.codeIn K cd_l_case "_law_case" = true)
    (k_l_case : PySem.W.keepIn K (.ref f_l_case) = true)
    (a_is_whole : PySem.W.nsIn K mainGlobals "is_whole" = some (some (.ref f_is_whole)))
    (l_is_whole : K.lookup f_is_whole = some ⟨oc_is_whole, od_is_whole, .func (PySem.W.fnOf "is_whole" "is_whole" (defArgs s_is_whole) (defBody s_is_whole) (defScope s_is_whole) .none kV_is_whole dc_is_whole pm_is_whole an_is_whole cd_is_whole ct_is_whole), sl_is_whole⟩)
    (c_is_whole : PySem.W.codeIn K cd_is_whole "is_whole" = true)
    (k_is_whole : PySem.W.keepIn K (.ref f_is_whole) = true)
    (a_need_width : PySem.W.nsIn K mainGlobals "need_width" = some (some (.ref f_need_width)))
    (l_need_width : K.lookup f_need_width = some ⟨oc_need_width, od_need_width, .func (PySem.W.fnOf "need_width" "need_width" (defArgs s_need_width) (defBody s_need_width) (defScope s_need_width) .none kV_need_width dc_need_width pm_need_width an_need_width cd_need_width ct_need_width), sl_need_width⟩)
    (c_need_width : PySem.W.codeIn K cd_need_width "need_width" = true)
    (k_need_width : PySem.W.keepIn K (.ref f_need_width) = true)
    (a_need_word : PySem.W.nsIn K mainGlobals "need_word" = some (some (.ref f_need_word)))
    (l_need_word : K.lookup f_need_word = some ⟨oc_need_word, od_need_word, .func (PySem.W.fnOf "need_word" "need_word" (defArgs s_need_word) (defBody s_need_word) (defScope s_need_word) .none kV_need_word dc_need_word pm_need_word an_need_word cd_need_word ct_need_word), sl_need_word⟩)
    (c_need_word : PySem.W.codeIn K cd_need_word "need_word" = true)
    (k_need_word : PySem.W.keepIn K (.ref f_need_word) = true)
    (a_guess_rows : PySem.W.nsIn K mainGlobals "guess_rows" = some (some (.ref f_guess_rows)))
    (l_guess_rows : K.lookup f_guess_rows = some ⟨oc_guess_rows, od_guess_rows, .func (PySem.W.fnOf "guess_rows" "guess_rows" (defArgs s_guess_rows) (defBody s_guess_rows) (defScope s_guess_rows) .none kV_guess_rows dc_guess_rows pm_guess_rows an_guess_rows cd_guess_rows ct_guess_rows), sl_guess_rows⟩)
    (c_guess_rows : PySem.W.codeIn K cd_guess_rows "guess_rows" = true)
    (k_guess_rows : PySem.W.keepIn K (.ref f_guess_rows) = true)
    (a_guess_of : PySem.W.nsIn K mainGlobals "guess_of" = some (some (.ref f_guess_of)))
    (l_guess_of : K.lookup f_guess_of = some ⟨oc_guess_of, od_guess_of, .func (PySem.W.fnOf "guess_of" "guess_of" (defArgs s_guess_of) (defBody s_guess_of) (defScope s_guess_of) .none kV_guess_of dc_guess_of pm_guess_of an_guess_of cd_guess_of ct_guess_of), sl_guess_of⟩)
    (c_guess_of : PySem.W.codeIn K cd_guess_of "guess_of" = true)
    (k_guess_of : PySem.W.keepIn K (.ref f_guess_of) = true)
    (a_l_whole : PySem.W.nsIn K mainGlobals "_law_whole" = some (some (.ref f_l_whole)))
    (l_l_whole : K.lookup f_l_whole = some ⟨oc_l_whole, od_l_whole, .func (PySem.W.fnOf "_law_whole" "_law_whole" (defArgs s_l_whole) (defBody s_l_whole) (defScope s_l_whole) .none kV_l_whole dc_l_whole pm_l_whole an_l_whole cd_l_whole ct_l_whole), sl_l_whole⟩)
    (c_l_whole : PySem.W.codeIn K cd_l_whole "_law_whole" = true)
    (k_l_whole : PySem.W.keepIn K (.ref f_l_whole) = true)
    (a_l_row : PySem.W.nsIn K mainGlobals "_law_row" = some (some (.ref f_l_row)))
    (l_l_row : K.lookup f_l_row = some ⟨oc_l_row, od_l_row, .func (PySem.W.fnOf "_law_row" "_law_row" (defArgs s_l_row) (defBody s_l_row) (defScope s_l_row) .none kV_l_row dc_l_row pm_l_row an_l_row cd_l_row ct_l_row), sl_l_row⟩)
    (c_l_row : PySem.W.codeIn K cd_l_row "_law_row" = true)
    (k_l_row : PySem.W.keepIn K (.ref f_l_row) = true)
    (a_l_held : PySem.W.nsIn K mainGlobals "_law_held" = some (some (.ref f_l_held)))
    (l_l_held : K.lookup f_l_held = some ⟨oc_l_held, od_l_held, .func (PySem.W.fnOf "_law_held" "_law_held" (defArgs s_l_held) (defBody s_l_held) (defScope s_l_held) .none kV_l_held dc_l_held pm_l_held an_l_held cd_l_held ct_l_held), sl_l_held⟩)
    (c_l_held : PySem.W.codeIn K cd_l_held "_law_held" = true)
    (k_l_held : PySem.W.keepIn K (.ref f_l_held) = true)
    (a_law : PySem.W.nsIn K mainGlobals "law" = some (some (.ref f_law)))
    (l_law : K.lookup f_law = some ⟨oc_law, od_law, .func (PySem.W.fnOf "law" "law" (defArgs s_law) (defBody s_law) (defScope s_law) .none kV_law dc_law pm_law an_law cd_law ct_law), sl_law⟩)
    (c_law : PySem.W.codeIn K cd_law "law" = true)
    (k_law : PySem.W.keepIn K (.ref f_law) = true)
    (ag_LEAST_WIDTH : PySem.W.nsIn K mainGlobals "LEAST_WIDTH" = some (some (.int 4 tk_LEAST_WIDTH)))
    (ag_GREATEST_WIDTH : PySem.W.nsIn K mainGlobals "GREATEST_WIDTH" = some (some (.int 32 tk_GREATEST_WIDTH)))
    (zz_isinstance : PySem.W.nsIn K mainGlobals "isinstance" = some none)
    (zz_bool : PySem.W.nsIn K mainGlobals "bool" = some none)
    (zz_int : PySem.W.nsIn K mainGlobals "int" = some none)
    (zz_range : PySem.W.nsIn K mainGlobals "range" = some none)
    (zz_len : PySem.W.nsIn K mainGlobals "len" = some none)
    (zz_tuple : PySem.W.nsIn K mainGlobals "tuple" = some none)
    (zz_list : PySem.W.nsIn K mainGlobals "list" = some none)
    (zz_min : PySem.W.nsIn K mainGlobals "min" = some none) : Tx K mg where
  d_l_drawn := ⟨f_l_drawn, _, fun_mk (st := s_l_drawn) l_l_drawn c_l_drawn k_l_drawn, (fun_mk (st := s_l_drawn) l_l_drawn c_l_drawn k_l_drawn).binds fun _ _ _ _ _ _ us hl => match us, hl with | [_, _], _ => rfl, PySem.W.mg_of X G a_l_drawn⟩
  d_l_case := ⟨f_l_case, _, fun_mk (st := s_l_case) l_l_case c_l_case k_l_case, (fun_mk (st := s_l_case) l_l_case c_l_case k_l_case).binds fun _ _ _ _ _ _ us hl => match us, hl with | [_], _ => rfl, PySem.W.mg_of X G a_l_case⟩
  d_is_whole := ⟨f_is_whole, _, fun_mk (st := s_is_whole) l_is_whole c_is_whole k_is_whole, (fun_mk (st := s_is_whole) l_is_whole c_is_whole k_is_whole).binds fun _ _ _ _ _ _ us hl => match us, hl with | [_], _ => rfl, PySem.W.mg_of X G a_is_whole⟩
  d_need_width := ⟨f_need_width, _, fun_mk (st := s_need_width) l_need_width c_need_width k_need_width, (fun_mk (st := s_need_width) l_need_width c_need_width k_need_width).binds fun _ _ _ _ _ _ us hl => match us, hl with | [_], _ => rfl, PySem.W.mg_of X G a_need_width⟩
  d_need_word := ⟨f_need_word, _, fun_mk (st := s_need_word) l_need_word c_need_word k_need_word, (fun_mk (st := s_need_word) l_need_word c_need_word k_need_word).binds fun _ _ _ _ _ _ us hl => match us, hl with | [_, _], _ => rfl, PySem.W.mg_of X G a_need_word⟩
  d_guess_rows := ⟨f_guess_rows, _, fun_mk (st := s_guess_rows) l_guess_rows c_guess_rows k_guess_rows, (fun_mk (st := s_guess_rows) l_guess_rows c_guess_rows k_guess_rows).binds fun _ _ _ _ _ _ us hl => match us, hl with | [_, _, _, _], _ => rfl, PySem.W.mg_of X G a_guess_rows⟩
  d_guess_of := ⟨f_guess_of, _, fun_mk (st := s_guess_of) l_guess_of c_guess_of k_guess_of, (fun_mk (st := s_guess_of) l_guess_of c_guess_of k_guess_of).binds fun _ _ _ _ _ _ us hl => match us, hl with | [_, _, _, _], _ => rfl, PySem.W.mg_of X G a_guess_of⟩
  d_l_whole := ⟨f_l_whole, _, fun_mk (st := s_l_whole) l_l_whole c_l_whole k_l_whole, (fun_mk (st := s_l_whole) l_l_whole c_l_whole k_l_whole).binds fun _ _ _ _ _ _ us hl => match us, hl with | [_], _ => rfl, PySem.W.mg_of X G a_l_whole⟩
  d_l_row := ⟨f_l_row, _, fun_mk (st := s_l_row) l_l_row c_l_row k_l_row, (fun_mk (st := s_l_row) l_l_row c_l_row k_l_row).binds fun _ _ _ _ _ _ us hl => match us, hl with | [_, _, _, _], _ => rfl, PySem.W.mg_of X G a_l_row⟩
  d_l_held := ⟨f_l_held, _, fun_mk (st := s_l_held) l_l_held c_l_held k_l_held, (fun_mk (st := s_l_held) l_l_held c_l_held k_l_held).binds fun _ _ _ _ _ _ us hl => match us, hl with | [_, _, _, _, _, _], _ => rfl, PySem.W.mg_of X G a_l_held⟩
  d_law := ⟨f_law, _, fun_mk (st := s_law) l_law c_law k_law, (fun_mk (st := s_law) l_law c_law k_law).binds fun _ _ _ _ _ _ us hl => match us, hl with | [_], _ => rfl, PySem.W.mg_of X G a_law⟩
  g_LEAST_WIDTH := ⟨_, PySem.W.mg_of X G ag_LEAST_WIDTH⟩
  g_GREATEST_WIDTH := ⟨_, PySem.W.mg_of X G ag_GREATEST_WIDTH⟩
  z_isinstance := PySem.W.mg_none_of X G zz_isinstance
  z_bool := PySem.W.mg_none_of X G zz_bool
  z_int := PySem.W.mg_none_of X G zz_int
  z_range := PySem.W.mg_none_of X G zz_range
  z_len := PySem.W.mg_none_of X G zz_len
  z_tuple := PySem.W.mg_none_of X G zz_tuple
  z_list := PySem.W.mg_none_of X G zz_list
  z_min := PySem.W.mg_none_of X G zz_min
theorem all_mk {l : PySem.W.OpenLaw} {w : World} {K : PySem.W.Frag} {h : Heap} {mg : Str → Option Value} {fa : Addr} (hfa : mg "law" = some (.ref fa)) (T : Tx K mg) :
    ∃ fd : FuncData, (∀ (s : Shared) (v : Value), BindsTo s fd ⟨[v], []⟩ [("_law_script", v)]) ∧ ∀ base : Heap, K.In base → base.Ns mainGlobals mg → FnOk l.prog w K mg base CX0 6 fa fd ["_law_script"] (sp_law K) := by
  have e := hfa.symm.trans T.d_law.m
  cases e
  refine ⟨T.d_law.fd, fun s v => ?_, fun base _ _ => ok_law T⟩
  obtain ⟨oc, od, kV, doc, pm, an, cdv, ct, osl, e, _, _⟩ := T.d_law.F.ex
  rw [e]
  exact .of_eq rfl
theorem walk {l : PySem.W.OpenLaw} {q : Program} {loose : List Str} {XP : (Str → Option Value) → Heap → Prop} {YP : World → Heap → Prop} {d : DefRec} {K : Params → PySem.W.Frag} (hn : l.most = some 63) (hdf : d.params.defaults = [])
    (hY : ∀ (w : World) (h : Heap), YP w h → (K w.params).In h)
    (F : ∀ (w : World) (mg : Str → Option Value) (fa : Addr) (h : Heap), (K w.params).In h → h.Ns mainGlobals mg → mg d.name = some (.ref fa) →
      ∃ fd : FuncData, (∀ (s : Shared) (u : Value), BindsTo s fd ⟨[u], []⟩ [("_law_script", u)]) ∧ ∀ base : Heap, (K w.params).In base → base.Ns mainGlobals mg → FnOk l.prog w (K w.params) mg base CX0 6 fa fd ["_law_script"] (sp_law (K w.params))) :
    PySem.W.WalkO q loose XP YP l.row.toRowW d [] (fun f vs => PySem.call f vs) :=
  L2.walk_of (n := 63) (k := 6) (x := "_law_script") (CX := fun _ => CX0) (sp := fun w => sp_law (K w.params)) hn (by decide) hdf ⟨rfl, by decide, by decide⟩ hY F (fun _ _ a ns hl _ hS => ⟨a, ns, rfl, hS, hl, fun _ _ => rfl⟩) fun _ _ _ _ _ z => z
end Ow
open PySem PySem.W PyProof.Rows
set_option maxRecDepth 100000 in
set_option maxHeartbeats 0 in
theorem PySem.Challenge.cw_overwise_k54_guesses_by_bits_holds : PySem.Challenge.rw_overwise_k54_guesses_by_bits.Holds := by
  w_on; o_law; k_head; (case hw => w_witness2)
  k_fill
  refine _root_.Ow.walk (l := PySem.Challenge.rw_overwise_k54_guesses_by_bits) rfl rfl (fun w h Y => PySem.W.kIn_of Y) ?F
  case F =>
    intro w mg fa h KX G hmg
    refine' _root_.Ow.all_mk (h := h) hmg (_root_.Ow.tx_mk KX G ?a_l_drawn ?l_l_drawn ?c_l_drawn ?k_l_drawn ?a_l_case ?l_l_case ?c_l_case ?k_l_case ?a_is_whole ?l_is_whole ?c_is_whole ?k_is_whole ?a_need_width ?l_need_width ?c_need_width ?k_need_width ?a_need_word ?l_need_word ?c_need_word ?k_need_word ?a_guess_rows ?l_guess_rows ?c_guess_rows ?k_guess_rows ?a_guess_of ?l_guess_of ?c_guess_of ?k_guess_of ?a_l_whole ?l_l_whole ?c_l_whole ?k_l_whole ?a_l_row ?l_l_row ?c_l_row ?k_l_row ?a_l_held ?l_l_held ?c_l_held ?k_l_held ?a_law ?l_law ?c_law ?k_law ?ag_LEAST_WIDTH ?ag_GREATEST_WIDTH ?zz_isinstance ?zz_bool ?zz_int ?zz_range ?zz_len ?zz_tuple ?zz_list ?zz_min)
    (case a_l_drawn => k_is)
    (case l_l_drawn => k_is)
    (case c_l_drawn => k_is)
    (case k_l_drawn => k_is)
    (case a_l_case => k_is)
    (case l_l_case => k_is)
    (case c_l_case => k_is)
    (case k_l_case => k_is)
    (case a_is_whole => k_is)
    (case l_is_whole => k_is)
    (case c_is_whole => k_is)
    (case k_is_whole => k_is)
    (case a_need_width => k_is)
    (case l_need_width => k_is)
    (case c_need_width => k_is)
    (case k_need_width => k_is)
    (case a_need_word => k_is)
    (case l_need_word => k_is)
    (case c_need_word => k_is)
    (case k_need_word => k_is)
    (case a_guess_rows => k_is)
    (case l_guess_rows => k_is)
    (case c_guess_rows => k_is)
    (case k_guess_rows => k_is)
    (case a_guess_of => k_is)
    (case l_guess_of => k_is)
    (case c_guess_of => k_is)
    (case k_guess_of => k_is)
    (case a_l_whole => k_is)
    (case l_l_whole => k_is)
    (case c_l_whole => k_is)
    (case k_l_whole => k_is)
    (case a_l_row => k_is)
    (case l_l_row => k_is)
    (case c_l_row => k_is)
    (case k_l_row => k_is)
    (case a_l_held => k_is)
    (case l_l_held => k_is)
    (case c_l_held => k_is)
    (case k_l_held => k_is)
    (case a_law => k_is)
    (case l_law => k_is)
    (case c_law => k_is)
    (case k_law => k_is)
    (case ag_LEAST_WIDTH => k_is)
    (case ag_GREATEST_WIDTH => k_is)
    (case zz_isinstance => k_is)
    (case zz_bool => k_is)
    (case zz_int => k_is)
    (case zz_range => k_is)
    (case zz_len => k_is)
    (case zz_tuple => k_is)
    (case zz_list => k_is)
    (case zz_min => k_is)
