import PyProof.Rows.All
import Wide.All
import OpenK.AllK
import Wide.FinOn
import HandS.ForMost
import HandS.Wide
import HandS.WideBits
import HandS.IsInst
import HandS.Style
import HandS.ForExc
import HandS.New0
import HandS.ExcInit
import HandS.ExcIs
import HandS.ClsMeth
import HandS.NoneIn
import HandS.Conv
import PySem.Challenge.RW_overwise_k51_longs_and_numbers
set_option Elab.async false
set_option linter.all false
set_option maxRecDepth 100000
set_option maxHeartbeats 40000000
/-! ### own rules and steps -/
namespace Ow
open PySem L2
section
variable {Q : VK} {H H' : Hp} {A B : Prop}
theorem gi {e : Int} (h : ∀ x, x = e → Q (.int x) H) : Q (.int e) H := h e rfl
theorem gl {e n : Int} (h : e = n) (q : Q (.int n) H) : Q (.int e) H := h ▸ q
theorem gs {e n : Str} (h : e = n) (q : Q (.str n) H) : Q (.str e) H := h ▸ q
theorem cc {v : V} {σ : L2.St} (h : Q v H) : tC v σ H Q := h
theorem p2 (k : Nat) : (0 : Int) < 2 ^ k := Int.pow_pos (by decide)
theorem gpow {k : Nat} (h : ∀ x, x = (2 : Int) ^ k → 0 < x → Q (.int x) H) : Q (.int (1 * 2 ^ k)) H := by
  rw [Int.one_mul]; exact h _ rfl (p2 k)
theorem gmod {i j : Int} (hj : 0 < j) (h : ∀ x, x = i % j → 0 ≤ x → x < j → Q (.int x) H) : Q (.int (i % j)) H :=
  h _ rfl (Int.emod_nonneg _ (by omega)) (Int.emod_lt_of_pos _ hj)
theorem gmax {i j : Int} (h : ∀ x, (i ≤ x ∧ j ≤ x ∧ (x = i ∨ x = j)) → Q (.int x) H) : Q (.int (if j > i then j else i)) H := by
  apply h; split <;> omega
theorem gmin {i j : Int} (h : ∀ x, (x ≤ i ∧ x ≤ j ∧ (x = i ∨ x = j)) → Q (.int x) H) : Q (.int (if j < i then j else i)) H := by
  apply h; split <;> omega
theorem max_ite {x i j : Int} (h : x = if j > i then j else i) : i ≤ x ∧ j ≤ x ∧ (x = i ∨ x = j) := by split at h <;> omega
theorem min_ite {x i j : Int} (h : x = if j < i then j else i) : x ≤ i ∧ x ≤ j ∧ (x = i ∨ x = j) := by split at h <;> omega
theorem abs_ite {x i : Int} (h : x = if i < 0 then -i else i) : (0 ≤ i ∧ x = i) ∨ (i < 0 ∧ x = -i) := by split at h <;> omega
theorem eqi {a b : Int} (h : a = b) (q : Q (.int b) H) : Q (.int a) H := h ▸ q
theorem eqb {a b : Bool} (h : a = b) (q : Q (.bl b) H) : Q (.bl a) H := h ▸ q
theorem eqd {P : Prop} [Decidable P] (h : P) (q : Q (.bl true) H) : Q (.bl (decide P)) H := by rw [decide_eq_true h]; exact q
theorem eqnd {P : Prop} [Decidable P] (h : ¬ P) (q : Q (.bl true) H) : Q (.bl (!decide P)) H := by rw [decide_eq_false h]; exact q
theorem eqeqi {i j : Int} (h : i = j) (q : Q (.bl true) H) : Q (.bl (decide (V.int i = V.int j))) H := by rw [decide_eq_true (by rw [h])]; exact q
theorem eqnei {i j : Int} (h : i ≠ j) (q : Q (.bl true) H) : Q (.bl (!decide (V.int i = V.int j))) H := by
  rw [decide_eq_false (fun z => h (V.int.inj z))]; exact q
theorem ginteq {i j : Int} (h : ∀ n : Int, ((n = 1 ∧ i = j) ∨ (n = 0 ∧ i ≠ j)) → Q (.int n) H) : Q (.int (if decide (V.int i = V.int j) = true then 1 else 0)) H := by
  by_cases e : i = j
  · rw [if_pos (decide_eq_true (by rw [e]))]; exact h _ (.inl ⟨rfl, e⟩)
  · rw [if_neg (fun z => e (V.int.inj (of_decide_eq_true z)))]; exact h _ (.inr ⟨rfl, e⟩)
theorem gintd {P : Prop} [Decidable P] (h : ∀ n : Int, ((n = 1 ∧ P) ∨ (n = 0 ∧ ¬ P)) → Q (.int n) H) : Q (.int (if decide P = true then 1 else 0)) H := by
  by_cases e : P
  · rw [if_pos (decide_eq_true e)]; exact h _ (.inl ⟨rfl, e⟩)
  · rw [if_neg (fun z => e (of_decide_eq_true z))]; exact h _ (.inr ⟨rfl, e⟩)
theorem ifb {b : Bool} (h1 : b = true → A) (h2 : b = false → B) : if b = true then A else B := by
  cases b
  · exact iteF (h2 rfl)
  · exact iteT (h1 rfl)
theorem ifd {P : Prop} [Decidable P] (h1 : P → A) (h2 : ¬ P → B) : if decide P = true then A else B := by
  by_cases e : P
  · rw [if_pos (decide_eq_true e)]; exact h1 e
  · rw [if_neg (fun z => e (of_decide_eq_true z))]; exact h2 e
theorem ifnd {P : Prop} [Decidable P] (h1 : ¬ P → A) (h2 : P → B) : if (!decide P) = true then A else B := by
  by_cases e : P
  · rw [decide_eq_true e]; exact iteF (h2 e)
  · rw [decide_eq_false e]; exact iteT (h1 e)
theorem ifeqi {i j : Int} (h1 : i = j → A) (h2 : i ≠ j → B) : if decide (V.int i = V.int j) = true then A else B :=
  ifd (fun e => h1 (V.int.inj e)) (fun e => h2 (fun z => e (by rw [z])))
theorem ifnei {i j : Int} (h1 : i ≠ j → A) (h2 : i = j → B) : if (!decide (V.int i = V.int j)) = true then A else B :=
  ifnd (fun e => h1 (fun z => e (by rw [z]))) (fun e => h2 (V.int.inj e))
theorem ifeqs {i j : Str} (h1 : i = j → A) (h2 : i ≠ j → B) : if decide (V.str i = V.str j) = true then A else B :=
  ifd (fun e => h1 (V.str.inj e)) (fun e => h2 (fun z => e (by rw [z])))
theorem ifnes {i j : Str} (h1 : i ≠ j → A) (h2 : i = j → B) : if (!decide (V.str i = V.str j)) = true then A else B :=
  ifnd (fun e => h1 (fun z => e (by rw [z]))) (fun e => h2 (V.str.inj e))
theorem ifeqb {a b : Bool} (h1 : (a = true ↔ b = true) → A) (h2 : ¬ (a = true ↔ b = true) → B) : if decide (V.bl a = V.bl b) = true then A else B :=
  ifd (fun e => h1 (by rw [V.bl.inj e])) (fun e => h2 (fun z => e (by rw [Bool.eq_iff_iff.mpr z])))
theorem ifneb {a b : Bool} (h1 : ¬ (a = true ↔ b = true) → A) (h2 : (a = true ↔ b = true) → B) : if (!decide (V.bl a = V.bl b)) = true then A else B :=
  ifnd (fun e => h1 (fun z => e (by rw [Bool.eq_iff_iff.mpr z]))) (fun e => h2 (by rw [V.bl.inj e]))
/-! heaps -/
theorem at_new {p q : Addr} {u o : HO} (hp : H p = none) (h : H q = some o) : upd H p u q = some o := by rw [upd_ne (ne_of_none h hp)]; exact h
theorem at_mut {b q : Addr} {u o : HO} (hn : q ≠ b) (h : H q = some o) : upd H b u q = some o := by rw [upd_ne hn]; exact h
theorem same_new {p : Addr} {u : HO} (hp : H p = none) : Same H (upd H p u) := fun _ _ h => at_new hp h
theorem same_mut {b : Addr} {u : HO} (s : Same H H') (hb : H b = none) : Same H (upd H' b u) := fun q o h => by rw [upd_ne (ne_of_none h hb)]; exact s q o h
theorem ne_sym {a b : Addr} (h : a ≠ b) : b ≠ a := fun z => h z.symm
theorem seq {K : PySem.W.Frag} {a : Addr} {xs : List V} (e : Same H H') (h : SqL K H a xs) : SqL K H' a xs := e.seq h
theorem seqT {K : PySem.W.Frag} {a : Addr} {xs : List V} (e : Same H H') (h : SqT K H a xs) : SqT K H' a xs := by
  rcases h with (h | ⟨o, h⟩) | h
  · exact .inl (.inl (e _ _ h))
  · exact .inl (.inr ⟨o, e _ _ h⟩)
  · exact .inr h
end
/-! operators -/
section
variable {X : Cx}
/-- named answers -/
theorem op_mulN : OpR X (binaryOp .Mult) (fun x y H Q => ∃ i j, x = .int i ∧ y = .int j ∧ (CMul i j ∨ CMulX i j) ∧ ∀ z, z = i * j → Q (.int z) H) := by
  intro pins s σ H x y v u Q I rx ry q
  obtain ⟨i, j, rfl, rfl, hc | hc, q⟩ := q
  · exact op_mul pins s σ H _ _ v u Q I rx ry ⟨i, j, rfl, rfl, hc, q _ rfl⟩
  · exact op_mulX pins s σ H _ _ v u Q I rx ry ⟨i, j, rfl, rfl, hc, q _ rfl⟩
theorem op_divN : OpR X (binaryOp .FloorDiv) (fun x y H Q => ∃ i j, x = .int i ∧ y = .int j ∧ CDivW i j ∧ ∀ z, z = i / j → Q (.int z) H) := by
  intro pins s σ H x y v u Q I rx ry q
  obtain ⟨i, j, rfl, rfl, hc, q⟩ := q
  exact op_fdivW pins s σ H _ _ v u Q I rx ry ⟨i, j, rfl, rfl, hc, q _ rfl⟩
theorem op_divF : OpR X (binaryOp .FloorDiv) (fun x y H Q => ∃ i j, x = .int i ∧ y = .int j ∧ (j ≠ 0 ∧ j.natAbs.log2 < 9000) ∧ ∀ z, z = i.fdiv j → Q (.int z) H) := by
  intro pins s σ H x y v u Q I rx ry q
  obtain ⟨i, j, rfl, rfl, hc, q⟩ := q
  obtain ⟨t, rfl⟩ := rx
  obtain ⟨t', rfl⟩ := ry
  exact PyProof.Rows.floordiv_int hc.1 ⟨.int (i.fdiv j), H, I.tok _, ⟨_, rfl⟩, q _ rfl⟩ (.inl (PyProof.noPylong_of_log2 hc.2))
theorem op_shlN : OpR X (binaryOp .LShift) (fun x y H Q => ∃ i j, x = .int i ∧ y = .int j ∧ (CPow i j ∨ CShl i j) ∧ ∀ z, z = i * 2 ^ j.toNat → Q (.int z) H) := by
  intro pins s σ H x y v u Q I rx ry q
  obtain ⟨i, j, rfl, rfl, hc | hc, q⟩ := q
  · exact op_shl pins s σ H _ _ v u Q I rx ry ⟨i, j, rfl, rfl, hc, q _ rfl⟩
  · exact op_shlW pins s σ H _ _ v u Q I rx ry ⟨i, j, rfl, rfl, hc, q _ rfl⟩
theorem op_shrN : OpR X (binaryOp .RShift) (fun x y H Q => ∃ i j, x = .int i ∧ y = .int j ∧ 0 ≤ j ∧ ∀ z, z = i / 2 ^ j.toNat → Q (.int z) H) := by
  intro pins s σ H x y v u Q I rx ry q
  obtain ⟨i, j, rfl, rfl, hc, q⟩ := q
  exact op_shr pins s σ H _ _ v u Q I rx ry ⟨i, j, rfl, rfl, hc, q _ rfl⟩
theorem op_modN : OpR X (binaryOp .Mod) (fun x y H Q => ∃ i j, x = .int i ∧ y = .int j ∧ 0 < j ∧ ∀ z, z = i % j → 0 ≤ z → z < j → Q (.int z) H) := by
  intro pins s σ H x y v u Q I rx ry q
  obtain ⟨i, j, rfl, rfl, hc, q⟩ := q
  exact op_mod pins s σ H _ _ v u Q I rx ry ⟨i, j, rfl, rfl, hc, q _ rfl (Int.emod_nonneg _ (by omega)) (Int.emod_lt_of_pos _ hc)⟩
theorem op_shl1 : OpR X (binaryOp .LShift) (fun x y H Q => ∃ j, x = .int 1 ∧ y = .int j ∧ (0 ≤ j ∧ j ≤ 1000000) ∧ ∀ z, z = 2 ^ j.toNat → 0 < z → Q (.int z) H) := by
  intro pins s σ H x y v u Q I rx ry q
  obtain ⟨j, rfl, rfl, ⟨h0, h1⟩, q⟩ := q
  refine op_shl pins s σ H _ _ v u Q I rx ry ⟨1, j, rfl, rfl, ⟨h0, h1, by decide⟩, ?_⟩
  show Q (.int (1 * 2 ^ j.toNat)) H
  rw [Int.one_mul]
  exact q _ rfl (p2 _)
theorem op_mask : OpR X (binaryOp .BitAnd) (fun x y H Q => ∃ (i j : Int) (k : Nat), x = .int i ∧ y = .int j ∧ j = 2 ^ k - 1 ∧ ∀ r, r = i % 2 ^ k → 0 ≤ r → r < 2 ^ k → Q (.int r) H) := by
  intro pins s σ H x y v u Q I rx ry h
  obtain ⟨i, j, k, rfl, rfl, rfl, q⟩ := h
  refine op_andM pins s σ H _ _ v u Q I rx ry ⟨i, k, rfl, rfl, q _ rfl (Int.emod_nonneg _ ?_) (Int.emod_lt_of_pos _ (p2 k))⟩
  have := p2 k; omega
theorem op_bor : OpR X (binaryOp .BitOr) (fun x y H Q => ∃ (i j : Int), x = .int i ∧ y = .int j ∧ 0 ≤ i ∧ 0 ≤ j ∧ ∀ r, r = Builtin.bitOr i j → 0 ≤ r → Q (.int r) H) := by
  intro pins s σ H x y v u Q I rx ry h
  obtain ⟨i, j, rfl, rfl, h0, h1, q⟩ := h
  refine op_or pins s σ H _ _ v u Q I rx ry ⟨i, j, rfl, rfl, q _ rfl ?_⟩
  rw [bitOr_nn h0 h1]
  exact Int.natCast_nonneg _
theorem call_dm : CallR X (.builtin "divmod") (fun xs H Q => ∃ i j, xs = [.int i, .int j] ∧ CDivP i j ∧ ∀ q r p, q = i / j → r = i % j → 0 ≤ r → r < j → H p = none → Q (.ref p) (upd H p (.tup [.int q, .int r]))) := by
  intro pins s σ H xs us Q I r h
  obtain ⟨i, j, rfl, hc, q⟩ := h
  exact call_divmodW pins s σ H _ us Q I r ⟨i, j, rfl, hc, fun p hp => q _ _ p rfl rfl (Int.emod_nonneg _ (by have := hc.1; omega)) (Int.emod_lt_of_pos _ hc.1) hp⟩
theorem call_intb : CallR X (.type "int") (fun xs H Q => ∃ k, xs = [.bl k] ∧ ∀ n : Int, ((n = 1 ∧ k = true) ∨ (n = 0 ∧ k = false)) → Q (.int n) H) := by
  intro pins s σ H xs us Q I r h
  obtain ⟨k, rfl, q⟩ := h
  refine call_int1 pins s σ H _ us Q I r (.inr ⟨k, rfl, ?_⟩)
  cases k
  · exact q _ (.inr ⟨rfl, rfl⟩)
  · exact q _ (.inl ⟨rfl, rfl⟩)
/-- an int's value by a name -/
def tNmi (t : TE) : TE := fun σ H Q => t σ H fun v H1 => ∃ i, v = .int i ∧ ∀ x, x = i → Q (.int x) H1
theorem pe_nmi {e : Expr} {t : TE} (h : PE X e t) : PE X e (tNmi t) := ⟨fun pins s σ H Q I q => thn (h.run pins s σ H _ I q) fun _ _ z => by
  obtain ⟨v, H1, I1, r1, i, rfl, q1⟩ := z
  exact ⟨.int i, H1, I1, r1, q1 i rfl⟩⟩
/-- a reckoned constant -/
def tLit (n : Int) (t : TE) : TE := fun σ H Q => t σ H fun v H1 => v = .int n ∧ Q (.int n) H1
theorem pe_lit (n : Int) {e : Expr} {t : TE} (h : PE X e t) : PE X e (tLit n t) := ⟨fun pins s σ H Q I q => thn (h.run pins s σ H _ I q) fun _ _ z => by
  obtain ⟨v, H1, I1, r1, rfl, q1⟩ := z
  exact ⟨.int n, H1, I1, r1, q1⟩⟩
end
theorem pow2_mono {a b : Nat} (h : a ≤ b) : (2 : Int) ^ a ≤ 2 ^ b := by
  have e : (2 : Int) ^ b = 2 ^ a * 2 ^ (b - a) := by rw [← Int.pow_add, show a + (b - a) = b by omega]
  rw [e]
  have h1 := p2 a
  have h2 := p2 (b - a)
  calc (2 : Int) ^ a = 2 ^ a * 1 := by omega
    _ ≤ 2 ^ a * 2 ^ (b - a) := Int.mul_le_mul_of_nonneg_left (by omega) (by omega)
theorem pow2_pred {w : Int} (h : 1 ≤ w) : (2 : Int) ^ w.toNat = 2 * 2 ^ (w - 1).toNat := by
  have e : w.toNat = (w - 1).toNat + 1 := by omega
  rw [e, Int.pow_succ, Int.mul_comm]
theorem pow2_lt {a b : Int} (h0 : 0 ≤ a) (h : a < b) : (2 : Int) ^ a.toNat < 2 ^ b.toNat := by
  have h1 := pow2_mono (a := a.toNat) (b := (b - 1).toNat) (by omega)
  have h2 := pow2_pred (w := b) (by omega)
  have h3 := p2 (b - 1).toNat
  omega
theorem pow2_le32 {w : Int} (h : w ≤ 32) : (2 : Int) ^ w.toNat ≤ 4294967296 := pow2_mono (b := 32) (by omega)
theorem pow2_le64 {w : Int} (h : w ≤ 64) : (2 : Int) ^ w.toNat ≤ 18446744073709551616 := pow2_mono (b := 64) (by omega)
theorem divw64 {i j : Int} (h0 : 0 < j) (h : j ≤ 18446744073709551616) : CDivW i j := wide_div h0 (b := 65) (by omega) (by decide) (by decide)
/-! sizes -/
def Sz (n : Nat) (i : Int) : Prop := i.natAbs < 2 ^ n
theorem Sz.lit {n : Nat} {i : Int} (h : i.natAbs < 2 ^ n) : Sz n i := h
theorem Sz.mono {a b : Nat} {i : Int} (h : Sz a i) (hab : a ≤ b) : Sz b i := Nat.lt_of_lt_of_le h (Nat.pow_le_pow_right (by decide) hab)
theorem Sz.mul {a b : Nat} {i j : Int} (h : Sz a i) (h' : Sz b j) : Sz (a + b) (i * j) := wide_lt h h'
theorem Sz.le {a : Nat} {i j : Int} (h : Sz a i) (hl : j.natAbs ≤ i.natAbs) : Sz a j := Nat.lt_of_le_of_lt hl h
theorem Sz.add {a : Nat} {i j : Int} (h : Sz a i) (h' : Sz a j) : Sz (a + 1) (i + j) := by
  unfold Sz at *
  rw [Nat.pow_succ]
  have := Int.natAbs_add_le i j
  omega
theorem Sz.neg {a : Nat} {i : Int} (h : Sz a i) : Sz a (-i) := by unfold Sz at *; rw [Int.natAbs_neg]; exact h
theorem Sz.sub {a : Nat} {i j : Int} (h : Sz a i) (h' : Sz a j) : Sz (a + 1) (i - j) := by
  rw [Int.sub_eq_add_neg]; exact h.add h'.neg
theorem Sz.pow {k : Int} {n : Nat} (h : k ≤ n) : Sz (n + 1) (2 ^ k.toNat) := by
  unfold Sz
  rw [Int.natAbs_pow]
  exact Nat.pow_lt_pow_right (by decide) (by omega)
theorem Sz.shl {a n : Nat} {i k : Int} (h : Sz a i) (hk : k ≤ n) : Sz (a + (n + 1)) (i * 2 ^ k.toNat) := h.mul (Sz.pow hk)
theorem Sz.div {a : Nat} {i j : Int} (h : Sz a i) (hj : 0 < j) : Sz a (i / j) := by
  refine h.le ?_
  have h1 := Int.ediv_mul_add_emod i j
  have h2 := Int.emod_nonneg i (show j ≠ 0 by omega)
  have h3 := Int.emod_lt_of_pos i hj
  by_cases hi : i < 0
  · have h4 : i ≤ i / j := by
      refine (Int.le_ediv_iff_mul_le hj).mpr ?_
      have : i * 1 ≥ i * j := Int.mul_le_mul_of_nonpos_left (by omega) (by omega)
      omega
    have h5 : i / j < 0 := Int.ediv_neg_of_neg_of_pos hi hj
    omega
  · have h4 : i / j ≤ i := Int.ediv_le_self _ (by omega)
    have h5 : 0 ≤ i / j := Int.ediv_nonneg (by omega) (by omega)
    omega
theorem Sz.rng {n : Nat} {i j : Int} (h0 : 0 ≤ i) (h1 : i < j) (h : j.natAbs ≤ 2 ^ n) : Sz n i := by
  unfold Sz; omega
theorem Sz.md {n : Nat} {i j : Int} (h0 : 0 ≤ i) (h1 : i < j) (h : Sz n j) : Sz n i := by
  unfold Sz at *; omega
theorem Sz.or {n : Nat} {x i j : Int} (h : x = i ∨ x = j) (hi : Sz n i) (hj : Sz n j) : Sz n x := by rcases h with rfl | rfl <;> assumption
theorem Sz.abs {n : Nat} {x i : Int} (h : Sz n i) (hx : x = if i < 0 then -i else i) : Sz n x := by
  refine h.le ?_; split at hx <;> omega
theorem mul0 {i j : Int} (h : -(2 ^ 64) < i ∧ i < 2 ^ 64) : CMul i j ∨ CMulX i j := .inl (.inl h)
theorem mul1 {i j : Int} (h : -(2 ^ 64) < j ∧ j < 2 ^ 64) : CMul i j ∨ CMulX i j := .inl (.inr h)
theorem shl0 {i j : Int} (h : 0 ≤ j) (h' : j ≤ 1000000) (h2 : i.natAbs < 2 ^ 64) : CPow i j ∨ CShl i j := .inl ⟨h, h', h2⟩
theorem szW {i : Int} (h : -(2 ^ 200) < i ∧ i < 2 ^ 200) : Sz 200 i := by unfold Sz; omega
theorem mulW {i j : Int} (h : -(2 ^ 200) < i ∧ i < 2 ^ 200) (h' : -(2 ^ 200) < j ∧ j < 2 ^ 200) : CMul i j ∨ CMulX i j := .inr (mulx_ok (szW h) (szW h') (by decide))
theorem divW {i j : Int} (h : 0 < j) (h' : j < 2 ^ 200) : CDivW i j := wide_div h (b := 200) (szW ⟨by omega, h'⟩) (by decide) (by decide)
theorem shlW {i j : Int} (h : 0 ≤ j) (h' : j ≤ 1000) (h2 : -(2 ^ 200) < i ∧ i < 2 ^ 200) : CPow i j ∨ CShl i j := by
  obtain ⟨n, rfl⟩ := Int.eq_ofNat_of_zero_le h
  exact .inr (shl_ok (n := 200) (szW h2) (by omega))
theorem mulx {a b : Nat} {i j : Int} (h : Sz a i) (h' : Sz b j) (hl : a + b ≤ 134217728) : CMulX i j := mulx_ok h h' hl
theorem divz {b : Nat} {i j : Int} (h : 0 < j) (hb : Sz b j) (h0 : 0 < b) (h9 : b ≤ 9000) : CDivW i j := wide_div h hb h0 h9
theorem divzF {b : Nat} {j : Int} (h : j ≠ 0) (hb : Sz b j) (h0 : 0 < b) (h9 : b ≤ 9000) : j ≠ 0 ∧ j.natAbs.log2 < 9000 := ⟨h, Nat.lt_of_lt_of_le (PySem.Flt.log2_lt_of h0 hb) h9⟩
theorem eqdd {P P' : Prop} [Decidable P] [Decidable P'] {Q : VK} {H : Hp} (h : P ↔ P') (q : Q (.bl (decide P')) H) : Q (.bl (decide P)) H := by rw [decide_eq_decide.mpr h]; exact q
theorem eqeqb {i j : Bool} {Q : VK} {H : Hp} (h : i = j) (q : Q (.bl true) H) : Q (.bl (decide (V.bl i = V.bl j))) H := by rw [decide_eq_true (by rw [h])]; exact q
theorem ix_tupK {X : Cx} {K : PySem.W.Frag} (h : X.K = K) : IxR X (rIxT K) := h ▸ ix_tup
theorem ix_listK {X : Cx} {K : PySem.W.Frag} (h : X.K = K) : IxR X (rIxL K) := h ▸ ix_list
theorem call_lenK {X : Cx} {K : PySem.W.Frag} (h : X.K = K) : CallR X (.builtin "len") (fun xs H Q => ∃ p ys, xs = [.ref p] ∧ (SqL K H p ys ∨ SqT K H p ys) ∧ Q (.int ys.length) H) := h ▸ call_len_seq
theorem tyes {σ : L2.St} {H : Hp} {Q : Bool → Hp → Prop} (h : Q true H) : tYes σ H Q := h
theorem dmz {a : Nat} {i j : Int} (h : 0 < j) (hz : Sz a i) (ha : a ≤ 4000) : CDivP i j := divp_ok h (by have := PyProof.Rows.intBits_le hz; omega)
theorem dms {i j : Int} (h : 0 < j) (h0 : -(2 ^ 64) < i) (h1 : i < 2 ^ 64) : CDivP i j := dmz (a := 64) h (by unfold Sz; omega) (by decide)
theorem shlz {a n : Nat} {i j : Int} (h : Sz a i) (h0 : 0 ≤ j) (hj : j ≤ n) (hn : a + n ≤ 134217728) : CShl i j := by
  obtain ⟨k, rfl⟩ : ∃ k : Nat, j = k := ⟨j.toNat, by omega⟩
  exact shl_ok h (by omega)
/-- all but the object at b is as it was -/
def Fm (b : Addr) (H H' : Hp) : Prop := ∀ q o, q ≠ b → H q = some o → H' q = some o
theorem Fm.refl {b : Addr} {H : Hp} : Fm b H H := fun _ _ _ h => h
theorem Fm.same {b : Addr} {H H1 H2 : Hp} (a : Fm b H H1) (s : Same H1 H2) : Fm b H H2 := fun q o n h => s q o (a q o n h)
theorem Fm.mut {b : Addr} {H H1 : Hp} {u : HO} (a : Fm b H H1) : Fm b H (upd H1 b u) := fun q o n h => by rw [upd_ne n]; exact a q o n h
theorem Fm.mutF {b c : Addr} {H H1 : Hp} {u : HO} (a : Fm b H H1) (hc : H c = none) : Fm b H (upd H1 c u) := fun q o n h => by rw [upd_ne (ne_of_none h hc)]; exact a q o n h
theorem Fm.trans {b : Addr} {H H1 H2 : Hp} (a : Fm b H H1) (s : Fm b H1 H2) : Fm b H H2 := fun q o n h => s q o n (a q o n h)
theorem Fm.frameF {b c : Addr} {H H1 H2 : Hp} (a : Fm b H H1) (s : Fm c H1 H2) (hc : H c = none) : Fm b H H2 := fun q o n h => s q o (ne_of_none h hc) (a q o n h)
theorem Fm.free {b : Addr} {H H' : Hp} (a : Fm b H H') {o : HO} {l : Addr} (hb : H' b = some o) (h : H' l = none) : H l = none := by
  cases e : H l with
  | none => rfl
  | some u =>
    have n : l ≠ b := fun z => by rw [z, hb] at h; cases h
    rw [a l u n e] at h; cases h
theorem same_frame {c : Addr} {H H1 H2 : Hp} (s : Same H H1) (f : Fm c H1 H2) (hc : H c = none) : Same H H2 := fun q o h => f q o (ne_of_none h hc) (s q o h)
/-! lists of ints -/
theorem szl {n : Nat} (h : n < 1000000) : n < sizeLine := Nat.lt_of_lt_of_le h (by decide)
theorem szle {n : Nat} (h : n ≤ 1000000) : n ≤ sizeLine := Nat.le_trans h (by decide)
section
variable {X : Cx} {K : PySem.W.Frag} {H H' : Hp} {Q : VK} {a : Addr}
theorem ap_ints {xs : List Int} {e : Int} (h : H a = some (.lst (xs.map V.int ++ [.int e]))) : H a = some (.lst ((xs ++ [e]).map V.int)) := by
  rw [List.map_append]; exact h
theorem set_ints {xs : List Int} {e : Int} {j : Nat} (h : H a = some (.lst ((xs.map V.int).set j (.int e)))) : H a = some (.lst ((xs.set j e).map V.int)) := by
  rw [List.map_set]; exact h
theorem dpAll_ints : ∀ xs : List Int, DpAll K H (xs.map V.int) (xs.map PyData.int)
  | [] => .nil
  | x :: xs => .cons (.int x) (dpAll_ints xs)
theorem dp_ints {xs : List Int} (h : SqL K H a (xs.map V.int)) : Dp K H (.ref a) (.list (xs.map PyData.int)) := .lst h (dpAll_ints xs)
theorem layAll_ints : ∀ xs : List Int, PyData.canLayAll0 (xs.map PyData.int) = true
  | [] => rfl
  | x :: xs => by
    rw [List.map_cons, PyData.canLayAll0, layAll_ints xs]
    rfl
theorem depAll_ints : ∀ xs : List Int, PyData.depthAll (xs.map PyData.int) = 0
  | [] => rfl
  | x :: xs => by
    rw [List.map_cons, PyData.depthAll, depAll_ints xs]
    rfl
theorem shaped_ints (xs : List Int) : SeqAt.shaped (.list (xs.map PyData.int)) = true := by
  unfold SeqAt.shaped
  rw [PyData.canLay0, PyData.depth, layAll_ints, depAll_ints]
  rfl
theorem eqvAll_ints : ∀ xs ys : List Int, PyData.eqvAll (xs.map PyData.int) (ys.map PyData.int) = decide (xs = ys)
  | [], [] => rfl
  | [], _ :: _ => rfl
  | _ :: _, [] => rfl
  | x :: xs, y :: ys => by
    rw [List.map_cons, List.map_cons, PyData.eqvAll, PyData.eqv, eqvAll_ints xs ys]
    by_cases h : x = y
    · by_cases h2 : xs = ys <;> simp [h, h2]
    · simp [h]
theorem eqv_ints (xs ys : List Int) : PyData.eqv (.list (xs.map PyData.int)) (.list (ys.map PyData.int)) = decide (xs = ys) := by
  rw [PyData.eqv]; exact eqvAll_ints xs ys
theorem op_eqI (hu : X.A.units + 64 < cLine) : OpR X (compareOp .Eq) (fun x y H Q => ∃ (a b : Addr) (xs ys : List Int), x = .ref a ∧ y = .ref b ∧ SqL X.K H a (xs.map V.int) ∧ SqL X.K H b (ys.map V.int) ∧ Q (.bl (decide (xs = ys))) H) := by
  intro pins s σ H x y v u Q I rx ry h
  obtain ⟨a, b, xs, ys, rfl, rfl, h1, h2, q⟩ := h
  refine op_eqD hu pins s σ H _ _ v u Q I rx ry ⟨_, _, dp_ints h1, dp_ints h2, shaped_ints _, shaped_ints _, ?_⟩
  rw [eqv_ints]; exact q
theorem op_neI (hu : X.A.units + 64 < cLine) : OpR X (compareOp .NotEq) (fun x y H Q => ∃ (a b : Addr) (xs ys : List Int), x = .ref a ∧ y = .ref b ∧ SqL X.K H a (xs.map V.int) ∧ SqL X.K H b (ys.map V.int) ∧ Q (.bl (!decide (xs = ys))) H) := by
  intro pins s σ H x y v u Q I rx ry h
  obtain ⟨a, b, xs, ys, rfl, rfl, h1, h2, q⟩ := h
  refine op_neD hu pins s σ H _ _ v u Q I rx ry ⟨_, _, dp_ints h1, dp_ints h2, shaped_ints _, shaped_ints _, ?_⟩
  rw [eqv_ints]; exact q
theorem dpT_ints {xs : List Int} (h : SqT K H a (xs.map V.int)) : Dp K H (.ref a) (.tuple (xs.map PyData.int)) := .tup h (dpAll_ints xs)
theorem shapedT_ints (xs : List Int) : SeqAt.shaped (.tuple (xs.map PyData.int)) = true := by
  unfold SeqAt.shaped
  rw [PyData.canLay0, PyData.depth, layAll_ints, depAll_ints]
  rfl
theorem eqvT_ints (xs ys : List Int) : PyData.eqv (.tuple (xs.map PyData.int)) (.tuple (ys.map PyData.int)) = decide (xs = ys) := by
  rw [PyData.eqv]; exact eqvAll_ints xs ys
theorem op_eqT (hu : X.A.units + 64 < cLine) : OpR X (compareOp .Eq) (fun x y H Q => ∃ (a b : Addr) (xs ys : List Int), x = .ref a ∧ y = .ref b ∧ SqT X.K H a (xs.map V.int) ∧ SqT X.K H b (ys.map V.int) ∧ Q (.bl (decide (xs = ys))) H) := by
  intro pins s σ H x y v u Q I rx ry h
  obtain ⟨a, b, xs, ys, rfl, rfl, h1, h2, q⟩ := h
  refine op_eqD hu pins s σ H _ _ v u Q I rx ry ⟨_, _, dpT_ints h1, dpT_ints h2, shapedT_ints _, shapedT_ints _, ?_⟩
  rw [eqvT_ints]; exact q
theorem op_neT (hu : X.A.units + 64 < cLine) : OpR X (compareOp .NotEq) (fun x y H Q => ∃ (a b : Addr) (xs ys : List Int), x = .ref a ∧ y = .ref b ∧ SqT X.K H a (xs.map V.int) ∧ SqT X.K H b (ys.map V.int) ∧ Q (.bl (!decide (xs = ys))) H) := by
  intro pins s σ H x y v u Q I rx ry h
  obtain ⟨a, b, xs, ys, rfl, rfl, h1, h2, q⟩ := h
  refine op_neD hu pins s σ H _ _ v u Q I rx ry ⟨_, _, dpT_ints h1, dpT_ints h2, shapedT_ints _, shapedT_ints _, ?_⟩
  rw [eqvT_ints]; exact q
theorem flat_ints (xs : List Int) : (xs.map V.int).all flatV = true := by
  rw [List.all_map, List.all_eq_true]; intro x _; rfl
theorem inV_ints (i : Int) (xs : List Int) : inV (.int i) (xs.map V.int) = decide (i ∈ xs) := by
  unfold inV
  rw [Bool.eq_iff_iff, List.any_map, List.any_eq_true, decide_eq_true_eq]
  constructor
  · rintro ⟨y, hy, e⟩
    have : (y == i) = true := e
    rw [← beq_iff_eq.mp this]; exact hy
  · exact fun h => ⟨i, h, beq_self_eq_true i⟩
theorem op_inI : OpR X (compareOp .In) (fun x y H Q => ∃ (i : Int) (p : Addr) (xs : List Int), x = .int i ∧ y = .ref p ∧ SqL X.K H p (xs.map V.int) ∧ Q (.bl (decide (i ∈ xs))) H) := by
  intro pins s σ H x y v u Q I rx ry h
  obtain ⟨i, p, xs, rfl, rfl, hs, q⟩ := h
  refine op_in_seq pins s σ H _ _ v u Q I rx ry ⟨_, _, rfl, .inl hs, rfl, flat_ints xs, ?_⟩
  rw [if_neg Bool.false_ne_true, inV_ints]
  exact q
theorem op_notInI : OpR X (compareOp .NotIn) (fun x y H Q => ∃ (i : Int) (p : Addr) (xs : List Int), x = .int i ∧ y = .ref p ∧ SqL X.K H p (xs.map V.int) ∧ Q (.bl (!decide (i ∈ xs))) H) := by
  intro pins s σ H x y v u Q I rx ry h
  obtain ⟨i, p, xs, rfl, rfl, hs, q⟩ := h
  refine op_notIn_seq pins s σ H _ _ v u Q I rx ry ⟨_, _, rfl, .inl hs, rfl, flat_ints xs, ?_⟩
  rw [if_pos rfl, inV_ints]
  exact q
theorem ixN_nat {n j : Nat} (h : j < n) : ixN n (j : Int) = some j := by
  unfold ixN
  rw [if_pos (by omega), if_pos (by omega)]; simp
theorem ixlast {xs : List Int} (h : SqL K H a (xs.map V.int)) (h0 : 0 < xs.length) (q : ∀ y, xs.getLast? = some y → Q (.int y) H) : rIxL K (.ref a) (.int (-1)) H Q := by
  obtain ⟨y, hy⟩ : ∃ y, xs.getLast? = some y := by
    cases e : xs.getLast? with
    | none => rw [List.getLast?_eq_none_iff] at e; subst e; simp at h0
    | some y => exact ⟨y, rfl⟩
  refine ⟨a, _, _, .int y, rfl, rfl, h, ?_, q y hy⟩
  obtain ⟨ys, rfl⟩ := List.getLast?_eq_some_iff.mp hy
  rw [List.map_append]
  exact atI_last _ _
end
/-! items -/
section
variable {K : PySem.W.Frag} {H : Hp} {Q : VK} {a : Addr}
theorem ixi {xs : List Int} {i : Int} (h : SqL K H a (xs.map V.int)) (h0 : 0 ≤ i) (h1 : i < xs.length) (q : ∀ y, xs[i.toNat]? = some y → Q (.int y) H) : rIxL K (.ref a) (.int i) H Q := by
  obtain ⟨n, rfl⟩ : ∃ n : Nat, i = n := ⟨i.toNat, by omega⟩
  have hl : n < xs.length := by omega
  refine ⟨a, _, _, .int (xs[n]'hl), rfl, rfl, h, atI_nat ?_, q _ (List.getElem?_eq_getElem hl)⟩
  rw [List.getElem?_map, List.getElem?_eq_getElem hl]
  all_goals rfl
theorem inV_int {y : Int} {xs : List Int} (h : y ∈ xs) : (if false = true then !(inV (.int y) (xs.map V.int)) else inV (.int y) (xs.map V.int)) = true := by
  rw [if_neg Bool.false_ne_true]
  unfold inV
  rw [List.any_map, List.any_eq_true]
  exact ⟨y, h, by simp [eqV]⟩
theorem ixn {xs : List Int} {i : Int} (h : SqL K H a (xs.map V.int)) (h0 : 0 ≤ i) (h1 : i < xs.length) (q : ∀ y, xs[i.toNat]? = some y → Q (.int y) H) : rIxL K (.ref a) (.int i) H Q := ixi h h0 h1 q
theorem ixi5 {x0 x1 x2 x3 x4 : Int} {i : Int} (h : SqL K H a [.int x0, .int x1, .int x2, .int x3, .int x4]) (hi : 0 ≤ i ∧ i < 5) (q : ∀ y, ((i = 0 ∧ y = x0) ∨ (i = 1 ∧ y = x1) ∨ (i = 2 ∧ y = x2) ∨ (i = 3 ∧ y = x3) ∨ (i = 4 ∧ y = x4)) → Q (.int y) H) : rIxL K (.ref a) (.int i) H Q := by
  refine ixi (xs := [x0, x1, x2, x3, x4]) h hi.1 hi.2 fun y hy => q y ?_
  have : i = 0 ∨ i = 1 ∨ i = 2 ∨ i = 3 ∨ i = 4 := by omega
  rcases this with rfl | rfl | rfl | rfl | rfl <;> simp at hy <;> omega

theorem gturn {n i : Nat} {σ : L2.St} {R : L2.St → Hp → Prop} (h : ∀ x : Int, x = (i : Int) → gName n (.int x) σ H R) : gName n (.int (0 + (i : Int))) σ H R := h _ (by omega)
theorem ints_get {xs : List Int} {i : Nat} {v : V} (h : (xs.map V.int)[i]? = some v) : ∃ n, v = .int n ∧ xs[i]? = some n := by
  rw [List.getElem?_map] at h
  cases e : xs[i]? with
  | none => rw [e] at h; cases h
  | some n => rw [e] at h; exact ⟨n, (Option.some.inj h).symm, rfl⟩
/-- the ints a .. b - 1 -/
def rgI (a b : Int) : List Int := (List.range (b - a).toNat).map fun i => a + (i : Nat)
theorem rg_at {a : Addr} {x y : Int} : upd H a (.lst (rgV x y)) a = some (.lst ((rgI x y).map V.int)) := by
  rw [upd_same]
  unfold rgV rgI
  rw [List.map_map]
  rfl
theorem rgI_mem {n y : Int} (h : y ∈ rgI 0 n) : 0 ≤ y ∧ y < n := by
  obtain ⟨j, hj, rfl⟩ := List.mem_map.mp h
  have := List.mem_range.mp hj
  omega
theorem cat_at {a : Addr} {xs ys : List Int} : upd H a (.lst (xs.map V.int ++ ys.map V.int)) a = some (.lst ((xs ++ ys).map V.int)) := by
  rw [upd_same, List.map_append]
theorem szc {xs ys : List Int} {n : Nat} (h : xs.length + ys.length ≤ n) (hn : n ≤ sizeLine) : (xs.map V.int).length + (ys.map V.int).length ≤ sizeLine := by
  rw [List.length_map, List.length_map]; omega
/-! an if whose two ways meet again in one state -/
theorem join {tc : TT} {t1 t2 u : TS} {D : Ends} {σ : L2.St} {H : Hp} (Pv : L2.St → Hp → Prop) (h1 : ∀ N : L2.St → Hp → Prop, (∀ σ2 H2, Pv σ2 H2 → N σ2 H2) → tIfS tc t1 t2 { D with nx := N } σ H) (h2 : ∀ σ2 H2, Pv σ2 H2 → u D σ2 H2) : tSeq (tIfS tc t1 t2) u D σ H := h1 _ h2
theorem setc {i : Nat} {te : TE} {u : TS} {D : Ends} {σ : L2.St} {H : Hp} (v : V) (h : u D (σ.set i (some v)) H) (e : ∀ Q : VK, Q v H → te σ H Q := by exact fun _ z => z) : tSeq (tAsg te (gName i)) u D σ H := e _ h
theorem gnm {i : Nat} {v : V} {σ : L2.St} {H : Hp} {N bk ct : L2.St → Hp → Prop} {rt : VK} (h : N (σ.set i (some v)) H) : gName i v σ H (Ends.nx ⟨N, rt, bk, ct⟩) := h
theorem joinL {tc : TT} {t1 t2 : TS} {D : Ends} {σ : L2.St} {H : Hp} (Pv : L2.St → Hp → Prop) (h1 : ∀ N : L2.St → Hp → Prop, (∀ σ2 H2, Pv σ2 H2 → N σ2 H2) → tIfS tc t1 t2 { D with nx := N } σ H) (h2 : ∀ σ2 H2, Pv σ2 H2 → D.nx σ2 H2) : tIfS tc t1 t2 D σ H := h1 _ h2
/-! a for over a written list, turn by turn -/
def unr (K : PySem.W.Frag) (a : Addr) (xs : List V) (g : TG) (tb : TS) (D : Ends) : List V → L2.St → Hp → Prop
  | [], σ, H => SqL K H a xs ∧ D.nx σ H
  | x :: r, σ, H => SqL K H a xs ∧ g x σ H fun σ2 H2 => tb { D with nx := unr K a xs g tb D r, ct := unr K a xs g tb D r, bk := D.nx } σ2 H2
theorem un_start {xs : List V} {g : TG} {tb : TS} {D : Ends} {σ : L2.St} (h : unr K a xs g tb D xs σ H) :
    ∃ W : Nat → Nat → L2.St → Hp → Prop, (∃ m, W 0 m σ H) ∧ ∀ i m σ H, W i m σ H →
      ((Itl K a).stop i H ∧ D.nx σ H) ∨ ((Itl K a).go i H ∧ ∃ N : L2.St → Hp → Prop, (∀ σ' H', N σ' H' → ∃ m', m' < m ∧ W (i + 1) m' σ' H') ∧ ∀ x H', (Itl K a).yld i H x H' → g x σ H' fun σ2 H2 => tb { D with nx := N, ct := N, bk := D.nx } σ2 H2) := by
  refine ⟨fun i m σ H => m = xs.length - i ∧ i ≤ xs.length ∧ unr K a xs g tb D (xs.drop i) σ H, ⟨xs.length, by simp, Nat.zero_le _, h⟩, ?_⟩
  rintro i m σ H ⟨rfl, hi, p⟩
  by_cases hlt : i < xs.length
  · rw [List.drop_eq_getElem_cons hlt] at p
    obtain ⟨q, p⟩ := p
    refine .inr ⟨⟨xs, xs[i], q, by simp [hlt]⟩, unr K a xs g tb D (xs.drop (i + 1)), fun σ' H' p' => ⟨xs.length - (i + 1), by omega, rfl, hlt, p'⟩, fun x H' y => ?_⟩
    obtain ⟨e, y⟩ := y
    subst e
    have e2 := y xs q
    rw [List.getElem?_eq_getElem hlt] at e2
    cases e2
    exact p
  · have e : i = xs.length := by omega
    subst e
    rw [List.drop_length] at p
    obtain ⟨q, p⟩ := p
    exact .inl ⟨⟨xs, q, Nat.le_refl _⟩, p⟩
end
/-! a comprehension over a written list, turn by turn -/
def unlc (K : PySem.W.Frag) (a : Addr) (xs : List V) (g : TG) (tt : TT) (te : TE) (σ : L2.St) (vs : List Nat) (D : Addr) (Qd : Hp → Prop) : List V → Hp → Prop
  | [], H => SqL K H a xs ∧ Qd H
  | x :: r, H => SqL K H a xs ∧ g x (wipe σ vs) H fun σ2 H2 => wipe σ2 vs = wipe σ vs ∧ tt σ2 H2 fun b H3 =>
      if b = true then te σ2 H3 fun y H4 => ∃ acc, H4 D = some (.lst acc) ∧ acc.length < sizeLine ∧ unlc K a xs g tt te σ vs D Qd r (upd H4 D (.lst (acc ++ [y]))) else unlc K a xs g tt te σ vs D Qd r H3
theorem unlc_start {K : PySem.W.Frag} {a : Addr} {xs : List V} {g : TG} {tt : TT} {te : TE} {σ : L2.St} {vs : List Nat} {H1 : Hp} {D : Addr} {Qd : Hp → Prop} (h : unlc K a xs g tt te σ vs D Qd xs (upd H1 D (.lst []))) :
    ∃ W : Nat → Nat → Hp → Prop, (∃ m, W 0 m (upd H1 D (.lst []))) ∧ ∀ i m H, W i m H →
      ((Itl K a).stop i H ∧ Qd H) ∨ ((Itl K a).go i H ∧ ∃ Nx : Hp → Prop, (∀ H', Nx H' → ∃ m', m' < m ∧ W (i + 1) m' H') ∧ ∀ x H', (Itl K a).yld i H x H' → g x (wipe σ vs) H' fun σ2 H2 => wipe σ2 vs = wipe σ vs ∧ tt σ2 H2 fun b H3 =>
        if b = true then te σ2 H3 fun y H4 => ∃ acc, H4 D = some (.lst acc) ∧ acc.length < sizeLine ∧ Nx (upd H4 D (.lst (acc ++ [y]))) else Nx H3) := by
  refine ⟨fun i m H => m = xs.length - i ∧ i ≤ xs.length ∧ unlc K a xs g tt te σ vs D Qd (xs.drop i) H, ⟨xs.length, by simp, Nat.zero_le _, h⟩, ?_⟩
  rintro i m H ⟨rfl, hi, p⟩
  by_cases hlt : i < xs.length
  · rw [List.drop_eq_getElem_cons hlt] at p
    obtain ⟨q, p⟩ := p
    refine .inr ⟨⟨xs, xs[i], q, by simp [hlt]⟩, unlc K a xs g tt te σ vs D Qd (xs.drop (i + 1)), fun H' p' => ⟨xs.length - (i + 1), by omega, rfl, hlt, p'⟩, fun x H' y => ?_⟩
    obtain ⟨e, y⟩ := y
    subst e
    have e2 := y xs q
    rw [List.getElem?_eq_getElem hlt] at e2
    cases e2
    exact p
  · have e : i = xs.length := by omega
    subst e
    rw [List.drop_length] at p
    obtain ⟨q, p⟩ := p
    exact .inl ⟨⟨xs, q, Nat.le_refl _⟩, p⟩
/-- a def that stands behind the top -/
structure Dk (K : PySem.W.Frag) (mg : Str → Option Value) (x qual : Str) (st : Stmt) (ps : List Str) : Type where
  f : Addr
  fd : FuncData
  F : Fun K x qual st f fd
  b : Binds K fd ps []
  m : mg x = some (.ref f)
end Ow

namespace Ow
open PySem PySem.Spec PyProof.Rows L2
/-! ### lists of tuples of ints -/
def g2 (r : Int × Int) : List Int := [r.1, r.2]
def g3 (r : Int × Int × Int) : List Int := [r.1, r.2.1, r.2.2]
def g4 (r : Int × Int × Int × Int) : List Int := [r.1, r.2.1, r.2.2.1, r.2.2.2]
def g5 (r : Int × Int × Int × Int × Int) : List Int := [r.1, r.2.1, r.2.2.1, r.2.2.2.1, r.2.2.2.2]
def g6 (r : Int × Int × Int × Int × Int × Int) : List Int := [r.1, r.2.1, r.2.2.1, r.2.2.2.1, r.2.2.2.2.1, r.2.2.2.2.2]
def g7 (r : Int × Int × Int × Int × Int × Int × Int) : List Int := [r.1, r.2.1, r.2.2.1, r.2.2.2.1, r.2.2.2.2.1, r.2.2.2.2.2.1, r.2.2.2.2.2.2]
abbrev Rw2 := List (Int × Int)
abbrev Rw3 := List (Int × Int × Int)
abbrev Rw4 := List (Int × Int × Int × Int)
abbrev Rw7 := List (Int × Int × Int × Int × Int × Int × Int)
inductive Rws {α : Type} (g : α → List Int) (H : Hp) : List V → List α → Prop
  | nil : Rws g H [] []
  | cons {p : Addr} {r : α} {vs : List V} {rs : List α} : H p = some (.tup ((g r).map V.int)) → Rws g H vs rs → Rws g H (.ref p :: vs) (r :: rs)
section
variable {α : Type} {g : α → List Int} {H H' : Hp} {vs : List V} {rs : List α}
theorem Rws.imp (h : ∀ p xs, H p = some (.tup xs) → H' p = some (.tup xs)) (R : Rws g H vs rs) : Rws g H' vs rs := by
  induction R with
  | nil => exact .nil
  | cons a _ ih => exact .cons (h _ _ a) ih
theorem Rws.same (s : Same H H') (R : Rws g H vs rs) : Rws g H' vs rs := R.imp fun _ _ e => s _ _ e
theorem Rws.new {p : Addr} {u : HO} (hp : H p = none) (R : Rws g H vs rs) : Rws g (upd H p u) vs rs := R.imp fun _ _ e => at_new hp e
theorem ne_tl {p b : Addr} {xs ys : List V} (h : H p = some (.tup xs)) (hb : H b = some (.lst ys)) : p ≠ b := fun e => by rw [e, hb] at h; cases h
theorem Rws.mut {b : Addr} {u : HO} {ys : List V} (hb : H b = some (.lst ys)) (R : Rws g H vs rs) : Rws g (upd H b u) vs rs := R.imp fun _ _ e => at_mut (ne_tl e hb) e
theorem Rws.fm {b : Addr} {ys : List V} (f : Fm b H H') (hb : H b = some (.lst ys)) (R : Rws g H vs rs) : Rws g H' vs rs := R.imp fun _ _ e => f _ _ (ne_tl e hb) e
theorem at_mutT {b p : Addr} {u : HO} {xs ys : List V} (hb : H b = some (.lst ys)) (h : H p = some (.tup xs)) : upd H b u p = some (.tup xs) := at_mut (ne_tl h hb) h
theorem at_fmT {b p : Addr} {xs ys : List V} (f : Fm b H H') (hb : H b = some (.lst ys)) (h : H p = some (.tup xs)) : H' p = some (.tup xs) := f _ _ (ne_tl h hb) h
theorem at_mutL {b p : Addr} {u : HO} {xs ys : List V} (hb : H b = some (.tup ys)) (h : H p = some (.lst xs)) : upd H b u p = some (.lst xs) := at_mut (fun e => ne_tl hb h e.symm) h
theorem Rws.len (R : Rws g H vs rs) : vs.length = rs.length := by
  induction R with
  | nil => rfl
  | cons _ _ ih => rw [List.length_cons, List.length_cons, ih]
theorem Rws.app {ws : List V} {ts : List α} (R : Rws g H vs rs) (S : Rws g H ws ts) : Rws g H (vs ++ ws) (rs ++ ts) := by
  induction R with
  | nil => exact S
  | cons a _ ih => exact .cons a ih
theorem Rws.snoc {p : Addr} {r : α} (R : Rws g H vs rs) (h : H p = some (.tup ((g r).map V.int))) : Rws g H (vs ++ [.ref p]) (rs ++ [r]) := R.app (.cons h .nil)
theorem Rws.take (R : Rws g H vs rs) (n : Nat) : Rws g H (vs.take n) (rs.take n) := by
  induction R generalizing n with
  | nil => rw [List.take_nil, List.take_nil]; exact .nil
  | cons a _ ih => cases n with
    | zero => exact .nil
    | succ n => exact .cons a (ih n)
theorem Rws.drop (R : Rws g H vs rs) (n : Nat) : Rws g H (vs.drop n) (rs.drop n) := by
  induction R generalizing n with
  | nil => rw [List.drop_nil, List.drop_nil]; exact .nil
  | cons a b ih => cases n with
    | zero => exact .cons a b
    | succ n => exact ih n
theorem Rws.dropLast (R : Rws g H vs rs) : Rws g H vs.dropLast rs.dropLast := by
  rw [List.dropLast_eq_take, List.dropLast_eq_take, R.len]; exact R.take _
theorem Rws.rev (R : Rws g H vs rs) : Rws g H vs.reverse rs.reverse := by
  induction R with
  | nil => exact .nil
  | cons a _ ih => rw [List.reverse_cons, List.reverse_cons]; exact ih.snoc a
theorem Rws.get {i : Nat} {v : V} (R : Rws g H vs rs) (h : vs[i]? = some v) : ∃ p r, v = .ref p ∧ H p = some (.tup ((g r).map V.int)) ∧ rs[i]? = some r := by
  induction R generalizing i with
  | nil => cases h
  | cons a _ ih => cases i with
    | zero => cases h; exact ⟨_, _, rfl, a, rfl⟩
    | succ n => exact ih h
theorem Rws.at {i : Nat} (R : Rws g H vs rs) (h : i < rs.length) : ∃ p r, vs[i]? = some (.ref p) ∧ H p = some (.tup ((g r).map V.int)) ∧ rs[i]? = some r := by
  have hl := R.len
  obtain ⟨p, r, e, hp, hr⟩ := R.get (List.getElem?_eq_getElem (by omega : i < vs.length))
  exact ⟨p, r, by rw [List.getElem?_eq_getElem (by omega : i < vs.length), e], hp, hr⟩
def rowD (g : α → List Int) (r : α) : PyData := .tuple ((g r).map PyData.int)
theorem Rws.dps {K : PySem.W.Frag} (R : Rws g H vs rs) : DpAll K H vs (rs.map (rowD g)) := by
  induction R with
  | nil => exact .nil
  | cons a _ ih => exact .cons (dpT_ints (SqT.of a)) ih
theorem layAll_rows (g : α → List Int) : ∀ rs : List α, PyData.canLayAll0 (rs.map (rowD g)) = true
  | [] => rfl
  | r :: rs => by
    rw [List.map_cons, PyData.canLayAll0, layAll_rows g rs, rowD, PyData.canLay0, layAll_ints]
    rfl
theorem depAll_rows (g : α → List Int) : ∀ rs : List α, PyData.depthAll (rs.map (rowD g)) ≤ 1
  | [] => Nat.zero_le _
  | r :: rs => by
    have := depAll_rows g rs
    rw [List.map_cons, PyData.depthAll, rowD, PyData.depth, depAll_ints]
    omega
theorem shaped_rows (g : α → List Int) (rs : List α) : SeqAt.shaped (.list (rs.map (rowD g))) = true := by
  unfold SeqAt.shaped
  rw [PyData.canLay0, PyData.depth, layAll_rows]
  have := depAll_rows g rs
  simp only [Bool.true_and, decide_eq_true_eq]
  omega
theorem eqvAll_rows (g : α → List Int) : ∀ xs ys : List α, PyData.eqvAll (xs.map (rowD g)) (ys.map (rowD g)) = decide (xs.map g = ys.map g)
  | [], [] => rfl
  | [], _ :: _ => rfl
  | _ :: _, [] => rfl
  | x :: xs, y :: ys => by
    rw [List.map_cons, List.map_cons, PyData.eqvAll, rowD, rowD, eqvT_ints, eqvAll_rows g xs ys, List.map_cons, List.map_cons]
    by_cases h : g x = g y
    · by_cases h2 : xs.map g = ys.map g <;> simp [h, h2]
    · simp [h]
end
theorem op_eqR {X : Cx} (hu : X.A.units + 64 < cLine) {α : Type} (g : α → List Int) : OpR X (compareOp .Eq) (fun x y H Q => ∃ (a b : Addr) (vs ws : List V) (xs ys : List α), x = .ref a ∧ y = .ref b ∧ SqL X.K H a vs ∧ SqL X.K H b ws ∧ Rws g H vs xs ∧ Rws g H ws ys ∧ Q (.bl (decide (xs.map g = ys.map g))) H) := by
  intro pins s σ H x y v u Q I rx ry h
  obtain ⟨a, b, vs, ws, xs, ys, rfl, rfl, h1, h2, r1, r2, q⟩ := h
  refine op_eqD hu pins s σ H _ _ v u Q I rx ry ⟨_, _, .lst h1 r1.dps, .lst h2 r2.dps, shaped_rows _ _, shaped_rows _ _, ?_⟩
  rw [PyData.eqv, eqvAll_rows]; exact q
theorem op_neR {X : Cx} (hu : X.A.units + 64 < cLine) {α : Type} (g : α → List Int) : OpR X (compareOp .NotEq) (fun x y H Q => ∃ (a b : Addr) (vs ws : List V) (xs ys : List α), x = .ref a ∧ y = .ref b ∧ SqL X.K H a vs ∧ SqL X.K H b ws ∧ Rws g H vs xs ∧ Rws g H ws ys ∧ Q (.bl (!decide (xs.map g = ys.map g))) H) := by
  intro pins s σ H x y v u Q I rx ry h
  obtain ⟨a, b, vs, ws, xs, ys, rfl, rfl, h1, h2, r1, r2, q⟩ := h
  refine op_neD hu pins s σ H _ _ v u Q I rx ry ⟨_, _, .lst h1 r1.dps, .lst h2 r2.dps, shaped_rows _ _, shaped_rows _ _, ?_⟩
  rw [PyData.eqv, eqvAll_rows]; exact q
section
variable {K : PySem.W.Frag} {H : Hp} {Q : VK} {a : Addr} {α : Type} {g : α → List Int} {vs : List V} {rs : List α}
theorem ixrow {i : Int} (h : SqL K H a vs) (R : Rws g H vs rs) (h0 : 0 ≤ i) (h1 : i < rs.length) (q : ∀ p r, rs[i.toNat]? = some r → H p = some (.tup ((g r).map V.int)) → Q (.ref p) H) : rIxL K (.ref a) (.int i) H Q := by
  obtain ⟨n, rfl⟩ : ∃ n : Nat, i = n := ⟨i.toNat, by omega⟩
  obtain ⟨p, r, e, hp, hr⟩ := R.at (i := n) (by omega)
  exact ⟨a, _, _, .ref p, rfl, rfl, h, atI_nat e, q p r hr hp⟩
theorem ixrowL (h : SqL K H a vs) (R : Rws g H vs rs) (h1 : 0 < rs.length) (q : ∀ p r, rs.getLast? = some r → H p = some (.tup ((g r).map V.int)) → Q (.ref p) H) : rIxL K (.ref a) (.int (-1)) H Q := by
  obtain ⟨p, r, e, hp, hr⟩ := R.at (i := rs.length - 1) (by omega)
  have hl := R.len
  rw [← List.getLast?_eq_getElem?] at hr
  rw [← hl, ← List.getLast?_eq_getElem?] at e
  refine ⟨a, _, _, .ref p, rfl, rfl, h, ?_, q p r hr hp⟩
  obtain ⟨ys, rfl⟩ := List.getLast?_eq_some_iff.mp e
  exact atI_last _ _
end
/-! ### slices -/
theorem cutV_take {xs : List V} {k : Int} (h : 0 ≤ k) : cutV xs none (some k) = xs.take k.toNat := by
  obtain ⟨n, rfl⟩ := Int.eq_ofNat_of_zero_le h
  unfold cutV
  rw [HT.sIx_none, HT.sIx_nat, List.drop_zero, Nat.sub_zero, Int.toNat_natCast]
  by_cases c : n ≤ xs.length
  · rw [Nat.min_eq_left c]
  · rw [Nat.min_eq_right (by omega), List.take_of_length_le (by omega), List.take_of_length_le (by omega)]
theorem cutV_drop {xs : List V} {k : Int} (h : 0 ≤ k) : cutV xs (some k) none = xs.drop k.toNat := by
  obtain ⟨n, rfl⟩ := Int.eq_ofNat_of_zero_le h
  unfold cutV
  rw [HT.sIx_none, HT.sIx_nat, Int.toNat_natCast]
  by_cases c : n ≤ xs.length
  · rw [Nat.min_eq_left c]
    exact List.take_of_length_le (by rw [List.length_drop]; exact Nat.le_refl _)
  · rw [Nat.min_eq_right (by omega), List.drop_of_length_le (Nat.le_refl _), List.drop_of_length_le (by omega), List.take_nil]
theorem cutV_init {xs : List V} : cutV xs none (some (-1)) = xs.dropLast := by
  unfold cutV
  rw [HT.sIx_none, List.drop_zero, Nat.sub_zero, List.dropLast_eq_take]
  congr 1
  unfold HT.sIx
  show (if (-1 : Int) < 0 then ((-1 : Int) + (xs.length : Int)).toNat else min (-1 : Int).toNat xs.length) = _
  rw [if_pos (by decide)]; omega
theorem cutV_last {xs : List V} : cutV xs (some (-1)) none = xs.drop (xs.length - 1) := by
  unfold cutV
  rw [HT.sIx_none]
  have : HT.sIx xs.length 0 (some (-1)) = xs.length - 1 := by
    unfold HT.sIx
    show (if (-1 : Int) < 0 then ((-1 : Int) + (xs.length : Int)).toNat else min (-1 : Int).toNat xs.length) = _
    rw [if_pos (by decide)]; omega
  rw [this]
  exact List.take_of_length_le (by rw [List.length_drop]; exact Nat.le_refl _)
section
variable {H : Hp} {p : Addr}
theorem sl_take {xs : List Int} {k : Int} (h : 0 ≤ k) : upd H p (.lst (cutV (xs.map V.int) none (some k))) p = some (.lst ((xs.take k.toNat).map V.int)) := by
  rw [upd_same, cutV_take h, List.map_take]
theorem sl_drop {xs : List Int} {k : Int} (h : 0 ≤ k) : upd H p (.lst (cutV (xs.map V.int) (some k) none)) p = some (.lst ((xs.drop k.toNat).map V.int)) := by
  rw [upd_same, cutV_drop h, List.map_drop]
theorem sl_init {xs : List Int} : upd H p (.lst (cutV (xs.map V.int) none (some (-1)))) p = some (.lst (xs.dropLast.map V.int)) := by
  rw [upd_same, cutV_init, List.map_dropLast]
theorem sl_last {xs : List Int} : upd H p (.lst (cutV (xs.map V.int) (some (-1)) none)) p = some (.lst ((xs.drop (xs.length - 1)).map V.int)) := by
  rw [upd_same, cutV_last, List.length_map, List.map_drop]
theorem sl_rev {xs : List Int} : upd H p (.lst (xs.map V.int).reverse) p = some (.lst (xs.reverse.map V.int)) := by
  rw [upd_same, List.map_reverse]
theorem slv_take {xs : List V} {k : Int} (h : 0 ≤ k) : upd H p (.lst (cutV xs none (some k))) p = some (.lst (xs.take k.toNat)) := by rw [upd_same, cutV_take h]
theorem slv_drop {xs : List V} {k : Int} (h : 0 ≤ k) : upd H p (.lst (cutV xs (some k) none)) p = some (.lst (xs.drop k.toNat)) := by rw [upd_same, cutV_drop h]
theorem slv_init {xs : List V} : upd H p (.lst (cutV xs none (some (-1)))) p = some (.lst xs.dropLast) := by rw [upd_same, cutV_init]
theorem rep1_at {x k : Int} : upd H p (.lst (List.replicate k.toNat [V.int x]).flatten) p = some (.lst ((List.replicate k.toNat x).map V.int)) := by
  rw [upd_same]
  generalize k.toNat = n
  congr 2
  induction n with
  | zero => rfl
  | succ n ih => rw [List.replicate_succ, List.flatten_cons, ih]; rfl
theorem repn_at {xs : List Int} {k : Int} : upd H p (.lst (List.replicate k.toNat (xs.map V.int)).flatten) p = some (.lst ((List.replicate k.toNat xs).flatten.map V.int)) := by
  rw [upd_same]
  generalize k.toNat = n
  congr 2
  induction n with
  | zero => rfl
  | succ n ih => rw [List.replicate_succ, List.replicate_succ, List.flatten_cons, List.flatten_cons, ih, List.map_append]
end
/-! ### draws -/
inductive Drw : List Int → List Int → Prop
  | nil : Drw [] []
  | cons {r m : Int} {rs ms : List Int} : 0 ≤ r → r < m → Drw rs ms → Drw (r :: rs) (m :: ms)
theorem Drw.snoc {rs ms : List Int} {r m : Int} (h : Drw rs ms) (h0 : 0 ≤ r) (h1 : r < m) : Drw (rs ++ [r]) (ms ++ [m]) := by
  induction h with
  | nil => exact .cons h0 h1 .nil
  | cons a b _ ih => exact .cons a b ih
theorem Drw.turn {rs ms : List Int} {r m : Int} {i : Nat} (h : Drw rs (List.take i ms)) (hm : ms[i]? = some m) (h0 : 0 ≤ r) (h1 : r < m) : Drw (rs ++ [r]) (List.take (i + 1) ms) := by
  rw [List.take_add_one, hm]; exact h.snoc h0 h1
theorem Drw.len {rs ms : List Int} (h : Drw rs ms) : rs.length = ms.length := by
  induction h with
  | nil => rfl
  | cons _ _ _ ih => rw [List.length_cons, List.length_cons, ih]
theorem Drw.get {rs ms : List Int} {j : Nat} {m : Int} (h : Drw rs ms) (hm : ms[j]? = some m) : ∃ r, rs[j]? = some r ∧ 0 ≤ r ∧ r < m := by
  induction h generalizing j with
  | nil => cases hm
  | cons a b _ ih => cases j with
    | zero => cases hm; exact ⟨_, rfl, a, b⟩
    | succ j => exact ih hm
theorem Drw.bnd {rs ms : List Int} {j : Nat} {r : Int} (h : Drw rs ms) (hr : rs[j]? = some r) : ∃ m, ms[j]? = some m ∧ 0 ≤ r ∧ r < m := by
  have hl : j < ms.length := by rw [← h.len]; exact (List.getElem?_eq_some_iff.mp hr).1
  obtain ⟨r', e, a, b⟩ := h.get (List.getElem?_eq_getElem hl)
  rw [hr] at e; cases e
  exact ⟨_, List.getElem?_eq_getElem hl, a, b⟩
theorem Drw.all {rs ms : List Int} {i : Nat} (h : Drw rs (List.take i ms)) (e : i = (ms.map V.int).length) : Drw rs ms := by
  rw [List.length_map] at e; rw [e, List.take_length] at h; exact h
section
variable {K : PySem.W.Frag} {H : Hp} {Q : VK} {a : Addr}
theorem ixd {rs ms : List Int} {j : Nat} {m : Int} (h : SqL K H a (rs.map V.int)) (hd : Drw rs ms) (hm : ms[j]? = some m) (q : ∀ y, rs[j]? = some y → (0 ≤ y ∧ y < m) → Q (.int y) H) : rIxL K (.ref a) (.int j) H Q := by
  obtain ⟨r, e, b⟩ := hd.get hm
  refine ⟨a, _, _, .int r, rfl, rfl, h, atI_nat ?_, q r e b⟩
  rw [List.getElem?_map, e]; rfl
theorem gdown {n i : Nat} {lo : Int} {σ : L2.St} {R : L2.St → Hp → Prop} (h : ∀ x : Int, x = lo - (i : Int) → gName n (.int x) σ H R) : gName n (.int (lo + (i : Int) * (-1))) σ H R := h _ (by omega)
theorem gup {n i : Nat} {lo : Int} {σ : L2.St} {R : L2.St → Hp → Prop} (h : ∀ x : Int, x = lo + (i : Int) → gName n (.int x) σ H R) : gName n (.int (lo + (i : Int))) σ H R := h _ rfl
end
theorem bor_add {o a b : Int} {n : Nat} (h : o = Builtin.bitOr (a * 2 ^ n) b) (h0 : 0 ≤ a) (b0 : 0 ≤ b) (b1 : b < 2 ^ n) : o = a * 2 ^ n + b := by
  obtain ⟨x, rfl⟩ := Int.eq_ofNat_of_zero_le h0
  obtain ⟨y, rfl⟩ := Int.eq_ofNat_of_zero_le b0
  have e : (x : Int) * 2 ^ n = ((2 ^ n * x : Nat) : Int) := by rw [Int.natCast_mul, Int.natCast_pow, Int.mul_comm]; rfl
  have hy : y < 2 ^ n := by exact_mod_cast b1
  rw [h, e, bitOr_nn (Int.natCast_nonneg _) (Int.natCast_nonneg _), Int.toNat_natCast, Int.toNat_natCast, ← Nat.two_pow_add_eq_or_of_lt hy, Int.natCast_add]
theorem or2 {o a b s : Int} (h : o = Builtin.bitOr s b) (hs : s = a * 2) (h0 : 0 ≤ a) (b0 : 0 ≤ b) (b1 : b < 2) : o = 2 * a + b := by
  have g := bor_add (n := 1) (a := a) (b := b) (o := o) (by rw [h, hs]; rfl) h0 b0 (by omega)
  omega

theorem ixN_last {n : Nat} (h : 0 < n) : ixN n (-1) = some (n - 1) := by
  unfold ixN
  rw [if_neg (by decide)]
  by_cases c : -(n : Int) ≤ -1
  · simp [c]; omega
  · omega
theorem set_last {a : Addr} {H : Hp} {xs : List Int} {e : Int} (h : H a = some (.lst ((xs.map V.int).set ((xs.map V.int).length - 1) (.int e)))) : H a = some (.lst ((xs.set (xs.length - 1) e).map V.int)) := by
  rw [List.length_map] at h
  rw [List.map_set]; exact h

theorem op_subB {X : Cx} : OpR X (binaryOp .Sub) (fun x y H Q => ∃ p q, x = .bl p ∧ y = .bl q ∧ ∀ a b : Int, ((a = 1 ∧ p = true) ∨ (a = 0 ∧ p = false)) → ((b = 1 ∧ q = true) ∨ (b = 0 ∧ q = false)) → Q (.int (a - b)) H) := by
  intro pins s σ H x y v u Q I rx ry h
  obtain ⟨p, q, rfl, rfl, hq⟩ := h
  cases rx
  cases ry
  refine PyProof.Rows.sub_bool ⟨.int _, H, I.tok _, ⟨_, rfl⟩, hq _ _ ?_ ?_⟩
  · cases p <;> simp [PyProof.Rows.b2i]
  · cases q <;> simp [PyProof.Rows.b2i]
theorem op_xor1 {X : Cx} : OpR X (binaryOp .BitXor) (fun x y H Q => ∃ i, x = .int i ∧ y = .int 1 ∧ 0 ≤ i ∧ ∀ r, r / 2 = i / 2 → 0 ≤ r → Q (.int r) H) := by
  intro pins s σ H x y v u Q I rx ry h
  obtain ⟨i, rfl, rfl, h0, q⟩ := h
  refine op_xor pins s σ H _ _ v u Q I rx ry ⟨i, 1, rfl, rfl, q _ ?_ (Bits.bitXor_nonneg h0 (by decide))⟩
  rw [Bits.bitXor_pp h0 (by decide)]
  obtain ⟨n, rfl⟩ := Int.eq_ofNat_of_zero_le h0
  rw [Int.toNat_natCast]
  have e : (n ^^^ (1 : Int).toNat) / 2 = n / 2 := by rw [Nat.xor_div_two]; simp
  omega

theorem ixN_int {n : Nat} {i : Int} (h : i < (n : Int)) (h0 : 0 ≤ i) : ixN n i = some i.toNat := by
  unfold ixN
  rw [if_pos h0, if_pos h]
theorem set_mix {a : Addr} {H : Hp} {xs : List Int} {v : V} {i : Int} (hl : 0 ≤ i ∧ i < xs.length) (h : H a = some (.lst ((xs.map V.int).set i.toNat v))) : H a = some (.lst ((xs.take i.toNat).map V.int ++ v :: (xs.drop (i.toNat + 1)).map V.int)) := by
  rw [h, List.set_eq_take_append_cons_drop, if_pos (by rw [List.length_map]; omega), List.map_take, List.map_drop]
theorem mix_get {ps : List Int} {v x : V} {rest : List V} {i : Nat} (hi : i ≤ ps.length) (h : (ps.map V.int ++ v :: rest)[i]? = some x) : (∃ n, x = .int n ∧ ps[i]? = some n) ∨ (x = v ∧ i = ps.length) := by
  by_cases c : i < ps.length
  · rw [List.getElem?_append_left (by rw [List.length_map]; exact c)] at h
    exact .inl (ints_get h)
  · have e : i = ps.length := by omega
    rw [List.getElem?_append_right (by rw [List.length_map]; omega), List.length_map, e, Nat.sub_self] at h
    exact .inr ⟨(Option.some.inj h).symm, e⟩
theorem mix_end {ps : List Int} {v : V} {rest : List V} (h : (ps.map V.int ++ v :: rest).length ≤ ps.length) : False := by
  rw [List.length_append, List.length_map, List.length_cons] at h; omega

end Ow
namespace Ow
open PySem L2

section
variable {X : Cx} {e : Expr} {es : List Expr} {ta : TA} {b : Str} {B : Addr} {mc : Value} {p1 p2 pos : Pos}
open PyProof.Rows PySem.Spec in
/-- B.__init__(self, ..), B an own class whose __init__ is ValueError's -/
theorem pe_winit {pl : Sem Bool} (hg : Gl X b) (hm : X.mg b = some (.ref B)) (rd : ClX.CRead X.K B mc) (cv : PySem.W.findCls X.K (.ref B) mc "__init__" = some (.val (.builtin "ValueError.__init__"))) (ha : PA X (e :: es) ta)
    (hdb : (b == ("__debug__" : Str)) = false := by decide)
    (hc : eval (.Call (.Attribute (.Name b p1) "__init__" p2) (e :: es) [] pos) X.env = (do
      let ov ← eval (.Name b p1) X.env
      standAt p2.atName
      let (f, first) ← holding [ov] (getMethod ov "__init__" pl)
      callWith pos f first (backTo pos (starEach (e :: es) X.env)) (backToKw pos (keywordEach [] X.env))) := by rfl)
    (he : starEach (e :: es) X.env = (false, eval e X.env) :: starEach es X.env := by rfl) (hpl : (backTo pos (starEach es X.env)).any (·.1) = false := by rfl) :
    PE X (.Call (.Attribute (.Name b p1) "__init__" p2) (e :: es) [] pos) (tVeI X.K ta) := by
  refine ⟨fun pins s σ H Q I h => ?_⟩
  refine PySem.W.methodCall_KW (ld_glob I hg hm ?_ hdb) hc
  refine PySem.W.method_cls I.kIn rd.ga (PySem.W.cls_value I.kIn rd.rd cv (by decide +kernel) ?_)
  show wpAny _ _ (callWith pos (Value.builtin "ValueError.__init__") [] (backTo pos (starEach (e :: es) X.env)) []) _ _ _
  refine PyProof.Rows.callWith_method1 (thn (ha.run pos pins _ σ H _ (I.tok _) h) fun us s1 ⟨vs, H1, I1, r1, a, C, ws, ev, hl, T, ea, q⟩ => ?_) he hpl
  subst ev
  cases r1 with
  | @cons _ u0 _ ur ra rw' =>
    obtain rfl : u0 = Value.ref a := ra
    have hlen : ur.length ≤ sizeLine := by
      rw [← Paired.length rw', sizeLine_eq]
      omega
    exact oinit_ok T I1 ea hlen fun s' J => ⟨.non, H1, J, rfl, q⟩
/-- C(), C's own __init__ keeping sp, no field stored -/
def tMkN (C : Addr) (sp : Sp) : L2.St → Hp → XK → Prop := fun σ H1 Q => ∀ a, H1 a = none → sp [.ref a] (upd H1 a (exo a C none))
  (fun v H2 => v = .non ∧ H2 a = some (exo a C none) ∧ Q (.ref C) none (del H2 a)) (fun _ _ _ => False)
open PyProof.Rows PySem.Spec in
theorem mk_endN {pins : List (Addr × Obj)} {σ : L2.St} {H1 H2 : Hp} {hp hp2 h2 : Heap} {g1 g2 : Array GenState} {d1 d2 : Drawn} {t1 t2 : Nat} {os1 os2 : OsState} {a C : Addr} (I1 : L2.Inv X pins σ H1 ⟨hp, g1, d1, t1, os1⟩)
    (ha : hp.objs.size ≤ a) (k : ∀ b o, hp.get? b = some o → hp2.get? b = some o) (un : Un (frs X.stack) [] (upd H1 a (exo a C none)) H2 hp2 h2) (hok : HOk X.prog X.w H2 h2) (ho : os2 = os1) (hb : AllBare g2)
    (ea : H2 a = some (exo a C none)) :
    ∃ (t0 : Addr) (G : Heap), L2.Inv X pins σ (del H2 a) ⟨G, g2, d2, t2, os2⟩ ∧ (∀ b o, G.get? b = some o → h2.get? b = some o) ∧ G.get? a = none ∧
      h2.get? a = some ({ cls := .ref C, dict := none, data := .fields #[.ref t0, .none, .none, .none, .bool false, .none] } : Obj) ∧ (del H2 a) a = none := by
  obtain ⟨t0, hoe⟩ := exo_at hok ea
  have hn : H1 a = none := I1.hok.fresh ha
  obtain ⟨G, g1', g2'⟩ := restrict h2 fun b => decide (b ≠ a)
  have gk : ∀ b, b ≠ a → G.get? b = h2.get? b := fun b hb => g1' b (decide_eq_true hb)
  have ge : G.get? a = none := g2' a (by simp)
  have nha : ∀ {b : Addr} {o : Obj}, hp.get? b = some o → b ≠ a := fun {b o} z => Nat.ne_of_lt (Nat.lt_of_lt_of_le (Heap.lt_size z) ha)
  have up : ∀ {b : Addr}, b ≠ a → H1 b = none → upd H1 a (exo a C none) b = none := fun {b} hb n => by rw [upd_ne hb]; exact n
  have U : Un (frs X.stack) [] H1 (del H2 a) hp G := {
    keep := fun b o z n hf hx => by
      rw [gk b (nha z)]
      exact un.keep b o (k b o z) (up (nha z) n) hf hx
    slot := fun b o z n hf hx => by
      rw [gk b (nha z)]
      exact un.slot b o (k b o z) (up (nha z) n) hf hx
    free := fun b o z n hx => by
      rw [del_ne (nha z)]
      exact un.free b o (k b o z) (up (nha z) n) hx
    there := fun b o z hx => by
      rw [gk b (nha z)]
      exact un.there b o (k b o z) hx
    tups := fun b xs z => by
      rw [del_ne (ne_of_none z hn)]
      exact un.tups b xs (by rw [upd_ne (ne_of_none z hn)]; exact z)
    frzs := fun b o v z => by
      rw [del_ne (ne_of_none z hn)]
      exact un.frzs b o v (by rw [upd_ne (ne_of_none z hn)]; exact z)
    tbls := fun b ps z => by
      rw [del_ne (ne_of_none z hn)]
      exact un.tbls b ps (by rw [upd_ne (ne_of_none z hn)]; exact z) }
  have hok3 : HOk X.prog X.w (del H2 a) G := fun b o z => by
    have hba : b ≠ a := fun e => by
      rw [e, del_same] at z
      cases z
    rw [del_ne hba] at z
    have noa : ∀ {c : Addr}, H2 c = some (.own b) → c ≠ a := fun {c} hc => at_ne ea hc exo_own
    exact (hok b o z).stay (fun c v hc y => by
        have hca : c ≠ a := by
          rcases hc with hc | hc
          · rw [hc]
            exact hba
          · exact noa hc
        rw [gk c hca]
        exact y)
      (fun c hc => by rw [del_ne (noa hc)]; exact hc) (fun c xs hc => by rw [del_ne (at_ne ea hc exo_tup)]; exact hc)
  have J : L2.Inv X pins σ (del H2 a) ⟨G, g2, d2, t2, os2⟩ := I1.call' (ch := []) ho U hok3 hb (fun b z => absurd z (by simp))
  refine ⟨t0, G, J, fun b o z => ?_, ge, hoe, del_same⟩
  by_cases hba : b = a
  · rw [hba, ge] at z
    cases z
  · exact (gk b hba).symm.trans z
open PyProof.Rows PySem.Spec in
theorem pmk_oexN {CX : CXT} {x : Str} {C fI : Addr} {k : Nat} {fd : FuncData} {ps : List Str} {sp : Sp} {p : Pos} (T : OexC X.K C) (iC : PySem.W.findIn X.K (.ref C) "__init__" = some (some (.ref fI))) (tI : PySem.W.typeIn X.K (.ref fI) = some (.type "function"))
    (F1 : FnOk X.prog X.w X.K X.mg X.base CX k fI fd ps sp) (hr : Room (k + 1) X.A) (hb : Binds X.K fd ps []) (hx : Passes CX X (fun _ _ _ => False)) (hg : Gl X x) (hm : X.mg x = some (.ref C))
    (hdb : (x == ("__debug__" : Str)) = false := by decide) :
    PMk X (.Call (.Name x p) [] [] pos) (tMkN C sp) := by
  intro pins s σ H Q I q1
  obtain ⟨nm, q, N, bs, bm, sn, sub, ab, col, dd, k0, k1, k2, k3, k5, hC, hbm⟩ := T.cls
  refine wpAny_Call_Name_kw (ld_glob I hg hm ?_ hdb)
  refine PySem.W.callWith_K0 I.kIn T.kC ?_
  show wpAny _ _ (call (.ref C) []) _ _ _
  obtain ⟨hp, g, dr, tk, os⟩ := s
  have hsz : hp.objs.size ≤ hp.objs.size + 1 := Nat.le_succ _
  have hn : H (hp.objs.size + 1) = none := I.hok.fresh hsz
  have hq := q1 (hp.objs.size + 1) hn
  have kk : ∀ b o, hp.get? b = some o → ((hp.push (PySem.W.kdv_tup [])).push (PySem.HandSPX.excO C hp.objs.size)).get? b = some o := fun b o e => Heap.get?_push_of_some _ (Heap.get?_push_of_some _ e)
  have hget : ((hp.push (PySem.W.kdv_tup [])).push (PySem.HandSPX.excO C hp.objs.size)).get? (hp.objs.size + 1) = some (PySem.HandSPX.excO C hp.objs.size) := by heap_get
  have I2 : L2.Inv X pins σ (upd H (hp.objs.size + 1) (exo (hp.objs.size + 1) C none)) ⟨(hp.push (PySem.W.kdv_tup [])).push (PySem.HandSPX.excO C hp.objs.size), g, dr, tk, os⟩ :=
    I.laid (t' := tk) (a := hp.objs.size + 1) (o := exo (hp.objs.size + 1) C none) (h' := (hp.push (PySem.W.kdv_tup [])).push (PySem.HandSPX.excO C hp.objs.size)) kk hsz (exo_ok hget)
  have r2 : Vals [V.ref (hp.objs.size + 1)] [Value.ref (hp.objs.size + 1)] := .cons rfl .nil
  have hl : ([Value.ref (hp.objs.size + 1)] : List Value).length = ps.length := by
    have e := r2.length
    rw [F1.len _ _ _ _ hq] at e
    exact e.symm
  refine wpAny_call (PySem.HandSPX.call_own F.excBase_ValueError (fun Y => PySem.HandSPX.refsVE_contains Y bm hbm) (I.kIn _ _ hC) (PySem.W.looks_findIn I.kIn iC) (fun self => PySem.W.bind_fn I.kIn self tI) (by simp)
    (codeAny_mono (F1.run _ X.stack _ _ ⟨[Value.ref (hp.objs.size + 1)], []⟩ ([Value.ref (hp.objs.size + 1)] ++ []) _ _ (fun _ _ _ => False) (hr.make C [] []) (I2.env0.make C [] []) (hb _ [Value.ref (hp.objs.size + 1)] I2.kIn hl) (r2.append .nil) hq) fun r s' hq' => ?_))
  cases r with
  | error er => exact hx pins σ _ _ er s' I2 hq'
  | ok fl =>
    cases fl with
    | ret u =>
      obtain ⟨v, H2, os2, bare2, un2, hok2, rv, ev, ea, q2⟩ := hq'
      subst ev
      obtain ⟨h2, g2, d2, t2, os'⟩ := s'
      refine ⟨rv, ?_⟩
      obtain ⟨t0, G, J, kG, ge, hoe, na⟩ := mk_endN (d2 := d2) (t2 := t2) I hsz kk un2 hok2 os2 bare2 ea
      exact ⟨hp.objs.size + 1, _, _, ⟨G, g2, d2, t2, os'⟩, _, .ref C, none, rfl, J, kG, ge, hoe, ⟨rfl, rfl⟩, rfl, rfl, na, rfl, bare2, raises_own T.exC T.tyC, q2⟩
    | next => exact False.elim hq'
    | brk => exact False.elim hq'
    | cont => exact False.elim hq'
end

theorem del_upd {H : Hp} {a : Addr} {o : HO} (h : H a = none) : del (upd H a o) a = H := by
  funext b
  by_cases hb : b = a
  · rw [hb, del_same, h]
  · rw [del_ne hb, upd_ne hb]
/-- isinstance of what the suite holds -/
theorem call_isE2 {X : Cx} {a : Addr} {oe : Obj} {cls : Value} {d : Option Addr} {pn : List (Addr × Obj)} (hz : Zc cls d oe) (hf : ∃ vs, oe.data = .fields vs) :
    CallR (X.suite a ((a, oe) :: pn)) (.builtin "isinstance") (fun xs H Q => ∃ (D C : Addr) (b : Bool), cls = .ref D ∧ d = none ∧ ExcC X.K D ∧ xs = [.ref a, .ref C] ∧ PySem.W.kitOne X.K (.ref D) (.ref C) = some b ∧ Q (.bl b) H) := by
  intro pins s σ H xs us Q I r h
  obtain ⟨D, C, b, rfl, rfl, E, rfl, hk, q⟩ := h
  exact call_isE E hz hf pins s σ H _ us Q I r ⟨.ref C, .ref C, b, rfl, fun u h => h, hk, q⟩
/-- isinstance of what the suite holds, a built-in class -/
theorem call_isET {X : Cx} {a : Addr} {oe : Obj} {cls : Value} {d : Option Addr} {pn : List (Addr × Obj)} (hz : Zc cls d oe) (hf : ∃ vs, oe.data = .fields vs) :
    CallR (X.suite a ((a, oe) :: pn)) (.builtin "isinstance") (fun xs H Q => ∃ (D : Addr) (n : String) (b : Bool), cls = .ref D ∧ d = none ∧ ExcC X.K D ∧ xs = [.ref a, .ty n] ∧ PySem.W.kitOne X.K (.ref D) (.type n) = some b ∧ Q (.bl b) H) := by
  intro pins s σ H xs us Q I r h
  obtain ⟨D, n, b, rfl, rfl, E, rfl, hk, q⟩ := h
  exact call_isE E hz hf pins s σ H _ us Q I r ⟨.ty n, .type n, b, rfl, fun u h => h, hk, q⟩
theorem kit_tyE {K : PySem.W.Frag} {D : Addr} {n : String} {b : Bool} (h1 : PySem.W.kitMeta n = true) (h4 : PySem.W.subIn K (.ref D) (.type n) = some b) : PySem.W.kitOne K (.ref D) (.type n) = some b := by
  unfold PySem.W.kitOne PySem.W.kitCls
  rw [if_neg (by intro h; cases h)]
  dsimp only
  rw [if_pos h1]
  exact h4
structure Xc (K : PySem.W.Frag) (mg : Str → Option Value) (x : Str) : Type where
  C : Addr
  m : mg x = some (.ref C)
  oex : OexC K C
  ex : ExcC K C
structure Bc (K : PySem.W.Frag) (mg : Str → Option Value) (x : Str) : Type where
  C : Addr
  m : mg x = some (.ref C)
  mc : Value
  rd : ClX.CRead K C mc
  cv : PySem.W.findCls K (.ref C) mc "__init__" = some (.val (.builtin "ValueError.__init__"))
structure Xi (K : PySem.W.Frag) (C : Addr) (qual : Str) (st : Stmt) (ps : List Str) : Type where
  f : Addr
  fd : FuncData
  F : Fun K "__init__" qual st f fd
  b : Binds K fd ps []
  iC : PySem.W.findIn K (.ref C) "__init__" = some (some (.ref f))
  tI : PySem.W.typeIn K (.ref f) = some (.type "function")

theorem kit_self {K : PySem.W.Frag} {t : Value} : PySem.W.kitOne K t t = some true := by
  unfold PySem.W.kitOne; rw [if_pos (beq_self_eq_true _)]
theorem kit_sub {K : PySem.W.Frag} {t : Value} {C : Addr} {b : Bool} (ne : (t == Value.ref C) = false) (h2 : PySem.W.isClsIn K C = true) (h3 : PySem.W.typeIn K (.ref C) = some (.type "type")) (h4 : PySem.W.subIn K t (.ref C) = some b) : PySem.W.kitOne K t (.ref C) = some b := by
  unfold PySem.W.kitOne PySem.W.kitCls
  have h2' : (PySem.W.clsIn K C).isSome = true := h2
  rw [if_neg (by rw [ne]; decide)]
  dsimp only
  rw [if_pos (by rw [h2', h3]; rfl)]
  exact h4

/-- C() of a class without any __init__ -/
structure Mk0 (K : PySem.W.Frag) (C : Addr) : Prop where
  makes : PySem.W.makesIn K C = true
  init : PySem.W.findIn K (.ref C) "__init__" = some (some (.builtin "object.__init__"))
  top : PySem.W.mroIn K C (.type "object") = some true
  kp : PySem.W.keepIn K (.ref C) = true
section
variable {X : Cx} {C : Addr} {x : Str} {p pos : Pos}
open PySem.W PySem.Calls PyProof.Rows NwA in
theorem run_make00 {pins : List (Addr × Obj)} {σ : L2.St} {H : Hp} {s : Shared} {Q : VK} (M : Mk0 X.K C) (I : L2.Inv X pins σ H s)
    (h : ∀ x dx, H x = Option.none → H dx = Option.none → dx ≠ x → Q (.ref x) (upd (upd H dx (.own x)) x (.ins C dx []))) : wpAny (model X.prog X.w) X.A (PySem.call (.ref C) []) (EP X pins σ Q) X.xe s := by
  have hq := h (s.heap.objs.size + 1) s.heap.objs.size (I.hok.fresh (Nat.le_succ _)) (I.hok.fresh (Nat.le_refl _)) (Nat.ne_of_lt (Nat.lt_succ_self _))
  have I2 := Inv.made (C := C) I
  refine wpAny_call (make_map0 I.kIn M.makes M.init (fun self => Looks.of_pure (oi_bind _)) ?_)
  have ho : ((s.heap.push PySem.W.emptyDict).push (PySem.W.instObj C s.heap.objs.size)).get? (s.heap.objs.size + 1) = some (PySem.W.instObj C s.heap.objs.size) := by
    have := Heap.get?_push_size (s.heap.push PySem.W.emptyDict) (o := PySem.W.instObj C s.heap.objs.size) rfl
    rwa [Heap.size_push] at this
  have t1 : Looks (model X.prog X.w) ((s.heap.push PySem.W.emptyDict).push (PySem.W.instObj C s.heap.objs.size)) (typeOf (.ref (s.heap.objs.size + 1))) (.ref C) := type_at ho rfl
  have t2 : Looks (model X.prog X.w) ((s.heap.push PySem.W.emptyDict).push (PySem.W.instObj C s.heap.objs.size)) (isInstance (.ref (s.heap.objs.size + 1)) (.type "object")) true := t1.andThen (looks_mroIn I2.kIn M.top)
  refine codeAny_call_builtin oi_plain entry_oi (@check_slot _ _ _ _ "object.__init__" "object" "__init__" (.ref (s.heap.objs.size + 1)) [] [] _ oi_kind oi_split t2 (oi_args_any _ [] []) ?_)
  rw [oi_run]
  exact wpAny_pure ⟨rfl, ⟨V.ref (s.heap.objs.size + 1), _, I2, rfl, hq⟩⟩
def tMake00 (C : Addr) : TE := fun _ H Q => ∀ x dx, H x = none → H dx = none → dx ≠ x → Q (.ref x) (upd (upd H dx (.own x)) x (.ins C dx []))
theorem pe_make00 (M : Mk0 X.K C) (hg : Gl X x) (hm : X.mg x = some (.ref C)) (hdb : (x == ("__debug__" : Str)) = false := by decide) : PE X (.Call (.Name x p) [] [] pos) (tMake00 C) := by
  refine ⟨fun pins s σ H Q I h => ?_⟩
  refine wpAny_Call_Name_kw (ld_glob I hg hm ?_ hdb)
  exact PySem.W.callWith_K0 I.kIn M.kp (run_make00 M I h)
/-- one of two readings -/
theorem pe_alt {e : Expr} {t u : TE} (h1 : PE X e t) (h2 : PE X e u) : PE X e (fun σ H Q => t σ H Q ∨ u σ H Q) :=
  ⟨fun pins s σ H Q I h => h.elim (h1.run pins s σ H Q I) (h2.run pins s σ H Q I)⟩
end

theorem free2 {H : Hp} {dx x : Addr} {o : HO} (hne : dx ≠ x) (hx : H x = none) : upd H dx o x = none := by rw [upd_ne (fun z => hne z.symm)]; exact hx
/-- a method of one of several classes -/
def MAlt (X : Cx) (CX : CXT) (m : Str) (C : Addr) (sp : Sp) : Prop :=
  ∃ f fd ps k, Cls X.K C ∧ Meth X.K C m f ∧ FnOk X.prog X.w X.K X.mg X.base CX k f fd ps sp ∧ Room k X.A ∧ Binds X.K fd ps []
def tMethA (R : Addr → Sp → Prop) (m : Str) (E : XK) (ta : TE) (t : TA) : TE := fun σ H Q => ta σ H fun x H1 => ∃ a dx fs C sp, x = .ref a ∧ R C sp ∧ H1 a = some (.ins C dx fs) ∧ fs.lookup m = none ∧ t σ H1 fun vs H2 => sp (.ref a :: vs) H2 Q E
section
variable {X : Cx} {CX : CXT} {E : XK} {R : Addr → Sp → Prop} {o e : Expr} {es : List Expr} {m : Str} {apos pos : Pos} {ta : TE} {t : TA}
theorem pe_methA {pl : Sem Bool} (he : PE X o ta) (hall : ∀ C sp, R C sp → MAlt X CX m C sp) (hx : Passes CX X E) (ha : PA X (e :: es) t)
    (hst : starEach (e :: es) X.env = (false, eval e X.env) :: starEach es X.env := by rfl) (hpl : (backTo pos (starEach es X.env)).any (·.1) = false := by rfl)
    (ht : eval (.Call (.Attribute o m apos) (e :: es) [] pos) X.env = (do
      let ov ← eval o X.env
      standAt apos.atName
      let (f, first) ← holding [ov] (getMethod ov m pl)
      callWith pos f first (backTo pos (starEach (e :: es) X.env)) (backToKw pos (keywordEach [] X.env))) := by rfl) :
    PE X (.Call (.Attribute o m apos) (e :: es) [] pos) (tMethA R m E ta t) := by
  refine ⟨fun pins s σ H Q I h => ?_⟩
  refine PySem.W.methodCall_KW (pl := pl) (thn (he.run pins s σ H _ I h) fun u s1 ⟨x, H1, I1, rx, a, dx, fs, C, sp, ex, hr, ea, l, q⟩ => ?_) ht
  obtain ⟨f, fd, ps, k, c, hm, F, hr, hb⟩ := hall C sp hr
  subst ex
  obtain rfl : u = Value.ref a := rx
  refine getmeth_ok I1 ea c hm l ?_
  refine PySem.W.callWith_K (first := [.ref a]) (h₀ := X.base) I.ok.mod.kin hm.kp (thn (ha.run pos pins s1 σ H1 _ I1 q) fun us s2 ⟨vs, H2, I2, r, q2⟩ => ⟨I2.kIn, ?_⟩) hst hpl
  exact run_fn (us := .ref a :: us) (vs := .ref a :: vs) F hr hb .nil hx I2 (.cons rfl r) (by rw [List.append_nil]; exact q2)
theorem pe_methA0 {pl : Sem Bool} (he : PE X o ta) (hall : ∀ C sp, R C sp → MAlt X CX m C sp) (hx : Passes CX X E)
    (ht : eval (.Call (.Attribute o m apos) [] [] pos) X.env = (do
      let ov ← eval o X.env
      standAt apos.atName
      let (f, first) ← holding [ov] (getMethod ov m pl)
      callWith pos f first (backTo pos (starEach [] X.env)) (backToKw pos (keywordEach [] X.env))) := by rfl) :
    PE X (.Call (.Attribute o m apos) [] [] pos) (tMethA R m E ta tNil) := by
  refine ⟨fun pins s σ H Q I h => ?_⟩
  refine PySem.W.methodCall_KW (pl := pl) (thn (he.run pins s σ H _ I h) fun u s1 ⟨x, H1, I1, rx, a, dx, fs, C, sp, ex, hr, ea, l, q⟩ => ?_) ht
  obtain ⟨f, fd, ps, k, c, hm, F, hr, hb⟩ := hall C sp hr
  subst ex
  obtain rfl : u = Value.ref a := rx
  refine getmeth_ok I1 ea c hm l ?_
  exact PySem.W.callWith_K0 (first := [.ref a]) I1.kIn hm.kp (run_fn (us := [.ref a]) (vs := [.ref a]) F hr hb .nil hx I1 (.cons rfl .nil) q)
end
theorem mal_one {X : Cx} {CX : CXT} {m : Str} {C0 : Addr} {sp0 : Sp} (h : MAlt X CX m C0 sp0) : ∀ C sp, (C = C0 ∧ sp = sp0) → MAlt X CX m C sp := by
  rintro _ _ ⟨rfl, rfl⟩; exact h
theorem mal_or {X : Cx} {CX : CXT} {m : Str} {R1 R2 : Addr → Sp → Prop} (h1 : ∀ C sp, R1 C sp → MAlt X CX m C sp) (h2 : ∀ C sp, R2 C sp → MAlt X CX m C sp) : ∀ C sp, (R1 C sp ∨ R2 C sp) → MAlt X CX m C sp :=
  fun C sp h => h.elim (h1 C sp) (h2 C sp)
/-- a class of the text whose instances are made -/
structure Kc (K : PySem.W.Frag) (mg : Str → Option Value) (x : Str) : Type where
  C : Addr
  m : mg x = some (.ref C)
  cl : Cls K C
structure Dm (K : PySem.W.Frag) (x qual : Str) (st : Stmt) (ps : List Str) : Type where
  f : Addr
  fd : FuncData
  F : Fun K x qual st f fd
  b : Binds K fd ps []

end Ow
namespace Ow
open PySem L2
local macro_rules | `(tactic| walk_at "ob") => `(tactic| first | assumption | omega | exact ⟨by omega, by omega⟩ | exact ⟨by omega, by omega, by omega⟩ | exact Ow.divw64 (by omega) (by omega) | exact Or.inl ⟨by omega, by omega⟩ | exact Or.inr ⟨by omega, by omega⟩)

/-- the count of a word -/
def cnt (w a : Int) : Int := if a < 2 ^ (w - 1).toNat then a else a - 2 ^ w.toNat
theorem dm (a : Int) {n : Int} (h : 0 < n) : a = a / n * n + a % n ∧ 0 ≤ a % n ∧ a % n < n :=
  ⟨(Int.ediv_mul_add_emod a n).symm, Int.emod_nonneg _ (by omega), Int.emod_lt_of_pos _ h⟩
theorem quo01 {a n : Int} (h : 0 < n) (h0 : 0 ≤ a) (h1 : a < 2 * n) : a / n = 0 ∨ a / n = 1 := by
  have h2 : a / n < 2 := Int.ediv_lt_of_lt_mul h h1
  have h3 : 0 ≤ a / n := Int.ediv_nonneg h0 (by omega)
  omega
theorem gapx {a b n : Int} (h : 0 < n) (a0 : 0 ≤ a) (a1 : a < n) (b0 : 0 ≤ b) (b1 : b < n) : (a - b) % n = if a < b then a - b + n else a - b := by
  split
  · rw [← Int.add_emod_right, Int.emod_eq_of_lt (by omega) (by omega)]
  · rw [Int.emod_eq_of_lt (by omega) (by omega)]
theorem high_lt {a b n : Int} (h : 0 < n) (a0 : 0 ≤ a) (a1 : a < n) (b0 : 0 ≤ b) (b1 : b < n) : 0 ≤ a * b / n ∧ a * b / n < n := by
  have h1 : 0 ≤ a * b := Int.mul_nonneg a0 b0
  refine ⟨Int.ediv_nonneg h1 (by omega), Int.ediv_lt_of_lt_mul h ?_⟩
  calc a * b ≤ a * n := Int.mul_le_mul_of_nonneg_left (by omega) a0
    _ < n * n := Int.mul_lt_mul_of_pos_right a1 h
theorem rgt {a : Int} (a0 : 0 ≤ a) (k : Nat) : 0 ≤ a / 2 ^ k ∧ a / 2 ^ k ≤ a := by
  refine ⟨Int.ediv_nonneg a0 (by have := p2 k; omega), Int.ediv_le_self _ a0⟩
theorem sub_mod (a n : Int) : (a - a % n) % n = 0 := by
  have h := Int.ediv_mul_add_emod a n
  have e : a - a % n = n * (a / n) := by rw [Int.mul_comm]; omega
  rw [e, Int.mul_emod_right]
theorem top_bit {w a : Int} (hw : 1 ≤ w) (h0 : 0 ≤ a) (h1 : a < 2 ^ w.toNat) : (a / 2 ^ (w - 1).toNat = 1 ∧ 2 ^ (w - 1).toNat ≤ a) ∨ (a / 2 ^ (w - 1).toNat = 0 ∧ a < 2 ^ (w - 1).toNat) := by
  have e := pow2_pred hw
  have p := p2 (w - 1).toNat
  by_cases h : a < 2 ^ (w - 1).toNat
  · exact .inr ⟨Int.ediv_eq_zero_of_lt h0 h, h⟩
  · refine .inl ⟨?_, by omega⟩
    have h2 := quo01 p h0 (by omega)
    have h3 : 1 ≤ a / 2 ^ (w - 1).toNat := (Int.le_ediv_iff_mul_le p).mpr (by omega)
    omega
/-- the count of the rest of a number that is a count -/
theorem cnt_rest {w x : Int} (hw : 1 ≤ w) (h0 : -(2 ^ (w - 1).toNat) ≤ x) (h1 : x < 2 ^ (w - 1).toNat) : cnt w (x % 2 ^ w.toNat) = x := by
  have e := pow2_pred hw
  have p := p2 (w - 1).toNat
  unfold cnt
  by_cases h : 0 ≤ x
  · rw [Int.emod_eq_of_lt h (by omega), if_pos h1]
  · rw [← Int.add_emod_right, Int.emod_eq_of_lt (by omega) (by omega), if_neg (by omega)]
    omega
theorem cnt_lt {w a : Int} (hw : 1 ≤ w) (h0 : 0 ≤ a) (h1 : a < 2 ^ w.toNat) : -(2 ^ (w - 1).toNat) ≤ cnt w a ∧ cnt w a < 2 ^ (w - 1).toNat := by
  have e := pow2_pred hw
  unfold cnt
  split <;> omega
theorem down {x n : Int} (h : 0 < n) : 0 ≤ x - x / n * n ∧ x - x / n * n < n := by
  have := dm x h
  omega
theorem slid {w x k : Int} (hw : 1 ≤ w) (h0 : -(2 ^ (w - 1).toNat) ≤ x) (h1 : x < 2 ^ (w - 1).toNat) (n : Nat) :
    0 ≤ x - cnt w (x / 2 ^ n % 2 ^ w.toNat) * 2 ^ n ∧ x - cnt w (x / 2 ^ n % 2 ^ w.toNat) * 2 ^ n < 2 ^ n := by
  have p := p2 n
  have p1 := p2 (w - 1).toNat
  have a1 : -(2 ^ (w - 1).toNat) ≤ x / 2 ^ n := by
    refine (Int.le_ediv_iff_mul_le p).mpr ?_
    have : (2 : Int) ^ (w - 1).toNat * 1 ≤ 2 ^ (w - 1).toNat * 2 ^ n := Int.mul_le_mul_of_nonneg_left (by omega) (by omega)
    have e : -(2 : Int) ^ (w - 1).toNat * 2 ^ n = -(2 ^ (w - 1).toNat * 2 ^ n) := Int.neg_mul _ _
    omega
  have a2 : x / 2 ^ n < 2 ^ (w - 1).toNat := by
    refine Int.ediv_lt_of_lt_mul p ?_
    have : (2 : Int) ^ (w - 1).toNat * 1 ≤ 2 ^ (w - 1).toNat * 2 ^ n := Int.mul_le_mul_of_nonneg_left (by omega) (by omega)
    omega
  rw [cnt_rest hw a1 a2]
  exact down p

/-- the number of words by B, the least one first -/
def val (B : Int) (xs : List Int) : Int := xs.foldr (fun x n => x + B * n) 0
def Wds (B : Int) (xs : List Int) : Prop := ∀ x ∈ xs, 0 ≤ x ∧ x < B
def Lng (B : Int) (xs : List Int) : Prop := Wds B xs ∧ ∀ x, xs.getLast? = some x → x ≠ 0
theorem val_nil (B : Int) : val B [] = 0 := rfl
theorem val_cons (B x : Int) (xs : List Int) : val B (x :: xs) = x + B * val B xs := rfl
theorem val_app (B : Int) : ∀ xs ys : List Int, val B (xs ++ ys) = val B xs + B ^ xs.length * val B ys
  | [], ys => by simp [val_nil]
  | x :: xs, ys => by
    rw [List.cons_append, val_cons, val_cons, val_app B xs ys, List.length_cons, Int.pow_succ, Int.mul_add, Int.mul_comm (B ^ xs.length) B, Int.mul_assoc]
    omega
theorem val_snoc (B x : Int) (xs : List Int) : val B (xs ++ [x]) = val B xs + B ^ xs.length * x := by
  rw [val_app, val_cons, val_nil, Int.mul_zero, Int.add_zero]
theorem Wds.nil {B : Int} : Wds B [] := fun _ h => by cases h
theorem Wds.snoc {B x : Int} {xs : List Int} (h : Wds B xs) (h0 : 0 ≤ x) (h1 : x < B) : Wds B (xs ++ [x]) := by
  intro y hy
  rcases List.mem_append.mp hy with z | z
  · exact h y z
  · rw [List.mem_singleton.mp z]; exact ⟨h0, h1⟩
theorem Wds.app {B : Int} {xs ys : List Int} (h : Wds B xs) (g : Wds B ys) : Wds B (xs ++ ys) := by
  intro y hy
  rcases List.mem_append.mp hy with z | z
  · exact h y z
  · exact g y z
theorem Wds.take {B : Int} {xs : List Int} (h : Wds B xs) (n : Nat) : Wds B (xs.take n) := fun x hx => h x (List.mem_of_mem_take hx)
theorem Wds.drop {B : Int} {xs : List Int} (h : Wds B xs) (n : Nat) : Wds B (xs.drop n) := fun x hx => h x (List.mem_of_mem_drop hx)
theorem Wds.rev {B : Int} {xs : List Int} (h : Wds B xs) : Wds B xs.reverse := fun x hx => h x (List.mem_reverse.mp hx)
theorem Wds.get {B x : Int} {xs : List Int} {i : Nat} (h : Wds B xs) (e : xs[i]? = some x) : 0 ≤ x ∧ x < B := h x (List.mem_of_getElem? e)
theorem Wds.rep {B : Int} (n : Nat) (hB : 0 < B) : Wds B (List.replicate n 0) := fun x hx => by rw [List.eq_of_mem_replicate hx]; omega
theorem val_nn {B : Int} (hB : 0 < B) : ∀ {xs : List Int}, Wds B xs → 0 ≤ val B xs
  | [], _ => Int.le_refl 0
  | x :: xs, h => by
    have a := h x List.mem_cons_self
    have b := val_nn hB (xs := xs) fun y hy => h y (List.mem_cons_of_mem _ hy)
    have := Int.mul_nonneg (by omega : 0 ≤ B) b
    rw [val_cons]; omega
theorem val_lt {B : Int} (hB : 0 < B) : ∀ {xs : List Int}, Wds B xs → val B xs < B ^ xs.length
  | [], _ => by rw [val_nil, List.length_nil, Int.pow_zero]; decide
  | x :: xs, h => by
    have a := h x List.mem_cons_self
    have b := val_lt hB (xs := xs) fun y hy => h y (List.mem_cons_of_mem _ hy)
    have := Int.mul_le_mul_of_nonneg_left (show val B xs + 1 ≤ B ^ xs.length by omega) (by omega : 0 ≤ B)
    rw [Int.mul_add, Int.mul_one] at this
    rw [val_cons, List.length_cons, Int.pow_succ, Int.mul_comm (B ^ xs.length) B]; omega
theorem Lng.tail {B x : Int} {xs : List Int} (h : Lng B (x :: xs)) : Lng B xs := by
  refine ⟨fun y hy => h.1 y (List.mem_cons_of_mem _ hy), fun y hy => h.2 y ?_⟩
  rw [List.getLast?_cons, hy]; rfl
theorem Lng.get1 {B x : Int} {xs : List Int} {i : Nat} (h : Lng B xs) (e : xs[i]? = some x) : 0 ≤ x ∧ x < B := h.1.get e
theorem Lng.nil {B : Int} : Lng B [] := ⟨Wds.nil, fun _ h => by cases h⟩
theorem Lng.pos {B : Int} (hB : 0 < B) : ∀ {xs : List Int}, Lng B xs → xs ≠ [] → 0 < val B xs
  | [], _, h => absurd rfl h
  | [x], h, _ => by
    have a := h.1 x List.mem_cons_self
    have b := h.2 x rfl
    rw [val_cons, val_nil]; omega
  | x :: y :: xs, h, _ => by
    have a := h.1 x List.mem_cons_self
    have b := Lng.pos hB h.tail (by simp)
    have := Int.mul_pos hB b
    rw [val_cons]; omega
/-- a long is told by its number -/
theorem Lng.uniq {B : Int} (hB : 0 < B) : ∀ {xs ys : List Int}, Lng B xs → Lng B ys → val B xs = val B ys → xs = ys
  | [], [], _, _, _ => rfl
  | [], y :: ys, _, g, e => by have := g.pos hB (by simp); rw [val_nil] at e; omega
  | x :: xs, [], h, _, e => by have := h.pos hB (by simp); rw [val_nil] at e; omega
  | x :: xs, y :: ys, h, g, e => by
    have a := h.1 x List.mem_cons_self
    have b := g.1 y List.mem_cons_self
    rw [val_cons, val_cons] at e
    have hxy : x = y := by
      have e1 := congrArg (· % B) e
      simp only [Int.add_mul_emod_self_left] at e1
      rwa [Int.emod_eq_of_lt a.1 a.2, Int.emod_eq_of_lt b.1 b.2] at e1
    subst hxy
    have : val B xs = val B ys := Int.eq_of_mul_eq_mul_left (by omega : B ≠ 0) (by omega)
    rw [Lng.uniq hB h.tail g.tail this]
theorem val_rep (B : Int) : ∀ (n : Nat), val B (List.replicate n 0) = 0
  | 0 => rfl
  | n + 1 => by rw [List.replicate_succ, val_cons, val_rep B n, Int.mul_zero]; rfl
theorem val_shift (B : Int) (n : Nat) (xs : List Int) : val B (List.replicate n 0 ++ xs) = B ^ n * val B xs := by
  rw [val_app, val_rep, List.length_replicate, Int.zero_add]
theorem take_snoc {xs : List Int} {i : Nat} {x : Int} (h : xs[i]? = some x) : xs.take (i + 1) = xs.take i ++ [x] := by
  rw [List.take_add_one, h]; rfl
theorem val_turn {B x : Int} {xs : List Int} {i : Nat} (h : xs[i]? = some x) : val B (xs.take (i + 1)) = val B (xs.take i) + B ^ i * x := by
  rw [take_snoc h, val_snoc, List.length_take, Nat.min_eq_left (Nat.le_of_lt (List.getElem?_eq_some_iff.mp h).1)]
/-- trimming: a nought goes -/
theorem trim_step {B l x : Int} {xs : List Int} (h0 : 0 < l) (h : xs[(l - 1).toNat]? = some x) (hx : x = 0) : val B (xs.take (l - 1).toNat) = val B (xs.take l.toNat) := by
  have e : l.toNat = (l - 1).toNat + 1 := by omega
  rw [e, val_turn h, hx, Int.mul_zero, Int.add_zero]
theorem trim_end {B l : Int} {xs : List Int} (h0 : 0 ≤ l) (hw : Wds B xs) (h : l = 0 ∨ ∃ x, xs[(l - 1).toNat]? = some x ∧ x ≠ 0) : Lng B (xs.take l.toNat) := by
  refine ⟨hw.take _, fun x hx => ?_⟩
  rcases h with rfl | ⟨y, hy, hn⟩
  · simp at hx
  · by_cases c : l = 0
    · subst c; simp at hx
    · have e : l.toNat = (l - 1).toNat + 1 := by omega
      rw [e, take_snoc hy, List.getLast?_concat] at hx
      cases hx; exact hn
/-- the words so far of a sum, with noughts where there is none -/
def at0 (xs : List Int) (i : Nat) : Int := (xs[i]?).getD 0
def vt (B : Int) (xs : List Int) : Nat → Int
  | 0 => 0
  | i + 1 => vt B xs i + B ^ i * at0 xs i
theorem vt_take (B : Int) (xs : List Int) : ∀ i, vt B xs i = val B (xs.take i)
  | 0 => rfl
  | i + 1 => by
    rw [vt, vt_take B xs i]
    cases h : xs[i]? with
    | some x => rw [val_turn h, at0, h]; rfl
    | none =>
      have hl : xs.length ≤ i := List.getElem?_eq_none_iff.mp h
      rw [at0, h, List.take_of_length_le hl, List.take_of_length_le (by omega)]
      show val B xs + B ^ i * 0 = val B xs
      omega
theorem vt_all {B : Int} {xs : List Int} {i : Nat} (h : xs.length ≤ i) : vt B xs i = val B xs := by rw [vt_take, List.take_of_length_le h]
theorem at0_rng {B : Int} {xs : List Int} (hB : 0 < B) (h : Wds B xs) (i : Nat) : 0 ≤ at0 xs i ∧ at0 xs i < B := by
  unfold at0
  cases e : xs[i]? with
  | none => exact ⟨Int.le_refl 0, hB⟩
  | some x => exact h.get e
/-- one place of a sum -/
theorem sum_turn {B P V X Y a b c w1 f w2 s : Int} (h : V + P * c = X + Y) (e1 : a + b = f * B + w1) (e2 : w1 + c = s * B + w2) : V + P * w2 + P * B * (f + s) = X + P * a + (Y + P * b) := by
  have e3 : a + b + c = (f + s) * B + w2 := by rw [Int.add_mul]; omega
  have e4 : P * (a + b + c) = P * ((f + s) * B + w2) := by rw [e3]
  rw [Int.mul_add, Int.mul_add, Int.mul_add, ← Int.mul_assoc, Int.mul_comm (P * (f + s)) B, ← Int.mul_assoc, Int.mul_comm B P] at e4
  omega
theorem carry01 {B a b c f s w1 w2 : Int} (hB : 0 < B) (a1 : a < B) (b1 : b < B) (c1 : c ≤ 1) (f0 : f = 0 ∨ f = 1) (s0 : s = 0 ∨ s = 1) (e1 : a + b = f * B + w1) (e2 : w1 + c = s * B + w2) (hw : 0 ≤ w2) : 0 ≤ f + s ∧ f + s ≤ 1 := by
  rcases f0 with rfl | rfl <;> rcases s0 with rfl | rfl <;> omega
/-- one place of a product by a word -/
theorem mul_turn {B P V X part word carry low lo hi more : Int} (h : V + P * carry = X * word) (e1 : part * word = hi * B + lo) (e2 : lo + carry = more * B + low) : V + P * low + P * B * (hi + more) = (X + P * part) * word := by
  have e3 : part * word + carry = (hi + more) * B + low := by rw [Int.add_mul]; omega
  have e4 : P * (part * word + carry) = P * ((hi + more) * B + low) := by rw [e3]
  have e5 : P * ((hi + more) * B) = P * B * (hi + more) := by rw [Int.mul_comm (hi + more) B, Int.mul_assoc]
  rw [Int.mul_add, Int.mul_add, e5] at e4
  rw [Int.add_mul, Int.mul_assoc P part word]
  omega
theorem mul_carry {B part word carry low lo hi more : Int} (hB : 0 < B) (p0 : 0 ≤ part) (p1 : part < B) (w0 : 0 ≤ word) (w1 : word < B) (c1 : carry < B) (l0 : 0 ≤ low) (e1 : part * word = hi * B + lo) (e2 : lo + carry = more * B + low) : hi + more < B := by
  have e3 : part * word + carry = (hi + more) * B + low := by rw [Int.add_mul]; omega
  have e4 : part * word ≤ (B - 1) * (B - 1) := Int.mul_le_mul (by omega) (by omega) w0 (by omega)
  have e5 : (B - 1) * (B - 1) = B * B - 2 * B + 1 := by rw [Int.sub_mul, Int.mul_sub]; omega
  by_cases c : hi + more < B
  · exact c
  · have : B * B ≤ (hi + more) * B := Int.mul_le_mul_of_nonneg_right (by omega) (by omega)
    omega
theorem rev_turn {B x : Int} {xs : List Int} {i : Nat} (h : xs[i]? = some x) : val B (xs.take (i + 1)).reverse = x + B * val B (xs.take i).reverse := by
  rw [take_snoc h, List.reverse_append, List.reverse_singleton, List.singleton_append, val_cons]
theorem pow_le_pow {B : Int} {n : Nat} (hB : 0 ≤ B) (h : B ≤ 4294967296) (m : Nat) (hm : m ≤ n) : B ^ m ≤ 2 ^ (32 * n) := by
  have a : ∀ m : Nat, 0 ≤ B ^ m ∧ B ^ m ≤ 4294967296 ^ m := fun m => by
    induction m with
    | zero => rw [Int.pow_zero, Int.pow_zero]; decide
    | succ m ih =>
      rw [Int.pow_succ, Int.pow_succ]
      exact ⟨Int.mul_nonneg ih.1 hB, Int.mul_le_mul ih.2 h hB (Int.le_trans ih.1 ih.2)⟩
  have b : (4294967296 : Int) ^ m = 2 ^ (32 * m) := by rw [Int.pow_mul]; rfl
  have c : (2 : Int) ^ (32 * m) ≤ 2 ^ (32 * n) := by
    have e : (2 : Int) ^ (32 * n) = 2 ^ (32 * m) * 2 ^ (32 * n - 32 * m) := by rw [← Int.pow_add]; congr 1; omega
    rw [e]
    have h1 := p2 (32 * m)
    have h2 := p2 (32 * n - 32 * m)
    have : (2 : Int) ^ (32 * m) * 1 ≤ 2 ^ (32 * m) * 2 ^ (32 * n - 32 * m) := Int.mul_le_mul_of_nonneg_left (by omega) (by omega)
    omega
  have := (a m).2
  omega
theorem val_sz {B : Int} {xs : List Int} (n : Nat) (hB : 0 < B) (h : B ≤ 4294967296) (hw : Wds B xs) (hn : xs.length ≤ n) : Sz (32 * n) (val B xs) := by
  have a := val_nn hB hw
  have b := val_lt hB hw
  have c := pow_le_pow (n := n) (by omega) h xs.length hn
  unfold Sz
  have : ((val B xs).natAbs : Int) < ((2 ^ (32 * n) : Nat) : Int) := by
    rw [Int.natCast_pow]
    show ((val B xs).natAbs : Int) < (2 : Int) ^ (32 * n)
    omega
  exact_mod_cast this
/-- a number's words -/
theorem wlen {B v n N : Int} {l s : Nat} (hB : 2 ≤ B) (h : N = v + B ^ l * n) (v0 : 0 ≤ v) (n1 : 1 ≤ n) (hz : Sz s N) : l < s := by
  have a : ∀ l : Nat, (2 : Int) ^ l ≤ B ^ l := fun l => by
    induction l with
    | zero => rw [Int.pow_zero, Int.pow_zero]; decide
    | succ l ih =>
      rw [Int.pow_succ, Int.pow_succ]
      have := p2 l
      exact Int.mul_le_mul ih hB (by decide) (by omega)
  have b := a l
  have p := p2 l
  have c : B ^ l * 1 ≤ B ^ l * n := Int.mul_le_mul_of_nonneg_left n1 (by omega)
  unfold Sz at hz
  have d : (2 : Int) ^ l < 2 ^ s := by
    have : (N.natAbs : Int) < (2 : Int) ^ s := by exact_mod_cast hz
    omega
  by_cases hl : l < s
  · exact hl
  · exfalso
    have e : (2 : Int) ^ l = 2 ^ s * 2 ^ (l - s) := by rw [← Int.pow_add]; congr 1; omega
    have h1 := p2 s
    have h2 := p2 (l - s)
    have : (2 : Int) ^ s * 1 ≤ 2 ^ s * 2 ^ (l - s) := Int.mul_le_mul_of_nonneg_left (by omega) (by omega)
    omega
theorem words_turn {B N n r q : Int} {xs : List Int} (hB : 0 < B) (h : N = val B xs + B ^ xs.length * n) (hr : r = n % B) (hq : q = n / B) : N = val B (xs ++ [r]) + B ^ (xs ++ [r]).length * q := by
  have e := Int.emod_add_mul_ediv n B
  rw [val_snoc, List.length_append, List.length_singleton, Int.pow_succ, h, hr, hq, Int.mul_assoc, Int.add_assoc, ← Int.mul_add, e]
theorem words_lng {B n r q : Int} {xs : List Int} (hB : 0 < B) (hn : 0 < n) (hw : Wds B xs) (hr : r = n % B) (hq : q = n / B) : q = 0 → Lng B (xs ++ [r]) := by
  intro h0
  have e := Int.emod_add_mul_ediv n B
  have a := Int.emod_nonneg n (show B ≠ 0 by omega)
  have b := Int.emod_lt_of_pos n hB
  refine ⟨hw.snoc (by omega) (by omega), fun x hx => ?_⟩
  rw [List.getLast?_concat] at hx
  cases hx
  rw [← hq, h0, Int.mul_zero] at e
  omega
/-- moved left: one place -/
theorem left_turn {B T F P Pi X w c d e : Int} (h : F + P * Pi * c = P * T * X) (h2 : w * T + c = d + B * e) : F + P * Pi * d + P * (Pi * B) * e = P * T * (X + Pi * w) := by
  have e4 : P * Pi * (w * T + c) = P * Pi * (d + B * e) := by rw [h2]
  rw [Int.mul_add, Int.mul_add] at e4
  have e5 : P * (Pi * B) * e = P * Pi * (B * e) := by simp only [Int.mul_assoc]
  have e6 : P * T * (Pi * w) = P * Pi * (w * T) := by
    rw [Int.mul_assoc, Int.mul_assoc, ← Int.mul_assoc T, Int.mul_comm T, Int.mul_assoc Pi, Int.mul_comm T w]
  rw [e5, Int.mul_add, e6]
  omega
theorem left_carry {B T w c : Int} (hB : 0 < B) (w1 : w < B) (w0 : 0 ≤ w) (c0 : 0 ≤ c) (c1 : c < T) : 0 ≤ (w * T + c) / B ∧ (w * T + c) / B < T := by
  have a : w * T ≤ (B - 1) * T := Int.mul_le_mul_of_nonneg_right (by omega) (by omega)
  rw [Int.sub_mul] at a
  have n : 0 ≤ w * T := Int.mul_nonneg w0 (by omega)
  exact ⟨Int.ediv_nonneg (by omega) (by omega), Int.ediv_lt_of_lt_mul hB (by rw [Int.mul_comm T B]; omega)⟩
theorem val_drop {B : Int} {xs : List Int} (hB : 0 < B) (h : Wds B xs) (p : Nat) : val B (xs.drop p) = val B xs / B ^ p := by
  have hP : ∀ p : Nat, 0 < B ^ p := fun p => Int.pow_pos hB
  by_cases c : p ≤ xs.length
  · have e : val B xs = val B (xs.take p) + B ^ p * val B (xs.drop p) := by
      have := val_app B (xs.take p) (xs.drop p)
      rw [List.take_append_drop, List.length_take, Nat.min_eq_left c] at this
      exact this
    have a := val_nn hB (h.take p)
    have b := val_lt hB (h.take p)
    rw [List.length_take, Nat.min_eq_left c] at b
    have := hP p
    rw [e, Int.add_mul_ediv_left _ _ (by omega), Int.ediv_eq_zero_of_lt a b, Int.zero_add]
  · rw [List.drop_of_length_le (by omega), val_nil]
    have a := val_nn hB h
    have b := val_lt hB h
    have d : B ^ xs.length ≤ B ^ p := by
      have e : B ^ p = B ^ xs.length * B ^ (p - xs.length) := by rw [← Int.pow_add]; congr 1; omega
      rw [e]
      have := hP xs.length
      have := hP (p - xs.length)
      have : B ^ xs.length * 1 ≤ B ^ xs.length * B ^ (p - xs.length) := Int.mul_le_mul_of_nonneg_left (by omega) (by omega)
      omega
    exact (Int.ediv_eq_zero_of_lt a (by omega)).symm
theorem drop_cons {xs : List Int} {k : Nat} {x : Int} (h : xs[k]? = some x) : xs.drop k = x :: xs.drop (k + 1) := by
  obtain ⟨hl, e⟩ := List.getElem?_eq_some_iff.mp h
  rw [List.drop_eq_getElem_cons hl, e]
theorem val_at0 (B : Int) (xs : List Int) (k : Nat) : val B (xs.drop k) = at0 xs k + B * val B (xs.drop (k + 1)) := by
  cases h : xs[k]? with
  | some x => rw [drop_cons h, val_cons, at0, h]; rfl
  | none =>
    have hl := List.getElem?_eq_none_iff.mp h
    rw [at0, h, List.drop_of_length_le hl, List.drop_of_length_le (by omega)]
    show (0 : Int) = 0 + B * 0
    omega
/-- moved right: one place -/
theorem right_turn {B T C w0 w1 M1 M2 : Int} (hT : 0 < T) (hB : B = T * C) (B0 : 0 < B) (a0 : 0 ≤ w0) (a1 : w0 < B) (h : M1 = w1 + B * M2) : (w0 + B * M1) / T = (w1 * B + w0) / T % B + B * (M1 / T) := by
  have e := Int.mul_ediv_add_emod M1 T
  have r0 := Int.emod_nonneg M1 (show T ≠ 0 by omega)
  have r1 := Int.emod_lt_of_pos M1 hT
  generalize M1 / T = q at *
  generalize M1 % T = r at *
  have b0 : 0 ≤ B * r := Int.mul_nonneg (by omega) r0
  have b1 : B * r ≤ B * (T - 1) := Int.mul_le_mul_of_nonneg_left (by omega) (by omega)
  rw [Int.mul_sub, Int.mul_one] at b1
  have d0 : 0 ≤ (w0 + B * r) / T := Int.ediv_nonneg (by omega) (by omega)
  have d1 : (w0 + B * r) / T < B := Int.ediv_lt_of_lt_mul hT (by omega)
  have e1 : w0 + B * M1 = (w0 + B * r) + T * (B * q) := by
    rw [← e, Int.mul_add, Int.mul_left_comm T B q]; omega
  have e2 : w1 * B + w0 = (w0 + B * r) + T * (B * (q - C * M2)) := by
    have : w1 = T * (q - C * M2) + r := by rw [Int.mul_sub, ← Int.mul_assoc, ← hB]; omega
    rw [this, Int.add_mul, Int.mul_comm r B, Int.mul_comm _ B, Int.mul_left_comm T B]; omega
  rw [e1, e2, Int.add_mul_ediv_left _ _ (by omega), Int.add_mul_ediv_left _ _ (by omega), Int.add_mul_emod_self_left, Int.emod_eq_of_lt d0 d1]
theorem set_lng {B v : Int} {xs : List Int} (h : Wds B xs) (h0 : 0 < v) (h1 : v < B) : Lng B (xs.set (xs.length - 1) v) := by
  refine ⟨fun y hy => ?_, fun y hy => ?_⟩
  · rcases List.mem_or_eq_of_mem_set hy with z | z
    · exact h y z
    · omega
  · rw [List.getLast?_eq_getElem?, List.length_set] at hy
    by_cases c : xs.length - 1 < xs.length
    · rw [List.getElem?_set_self c] at hy
      cases hy; omega
    · have : xs = [] := List.length_eq_zero_iff.mp (by omega)
      subst this
      simp at hy
theorem Lng.last {B x : Int} {xs : List Int} (h : Wds B xs) (e : xs.getLast? = some x) (hn : x ≠ 0) : Lng B xs := ⟨h, fun y hy => by rw [e] at hy; cases hy; exact hn⟩
theorem at0_get {xs : List Int} {i : Nat} {x : Int} (h : xs[i]? = some x) : at0 xs i = x := by unfold at0; rw [h]; rfl
theorem at0_none {xs : List Int} {i : Nat} (h : xs.length ≤ i) : at0 xs i = 0 := by unfold at0; rw [List.getElem?_eq_none_iff.mpr h]; rfl
theorem last_mem {xs : List Int} {x : Int} (h : xs.getLast? = some x) : x ∈ xs := List.mem_of_getLast? h
theorem prod_turn {P V X Y Z S it : Int} (h : Z = V + P * S) (h2 : S = X * it) (h3 : V = X * Y) : Z = X * (Y + P * it) := by
  rw [h, h2, h3, Int.mul_add, Int.mul_left_comm P X it]
theorem pow_split {m w : Int} (hw : 0 < w) (hm : 0 ≤ m) : ((2 : Int) ^ w.toNat) ^ (m / w).toNat * 2 ^ (m % w).toNat = 2 ^ m.toNat := by
  have e := Int.mul_ediv_add_emod m w
  have q0 : 0 ≤ m / w := Int.ediv_nonneg hm (by omega)
  have r0 := Int.emod_nonneg m (show w ≠ 0 by omega)
  rw [← Int.pow_mul, ← Int.pow_add]
  congr 1
  have : (w * (m / w) + m % w).toNat = w.toNat * (m / w).toNat + (m % w).toNat := by
    have a : 0 ≤ w * (m / w) := Int.mul_nonneg (by omega) q0
    rw [Int.toNat_add a r0, Int.toNat_mul (by omega) q0]
  rw [← this, e]
theorem pow_dv {w b : Int} (h0 : 0 ≤ b) (h : b ≤ w) : (2 : Int) ^ w.toNat = 2 ^ b.toNat * 2 ^ (w - b).toNat := by
  rw [← Int.pow_add]; congr 1; omega
theorem right_step {B T C it t : Int} {xs : List Int} {k : Nat} (hT : 0 < T) (hB : B = T * C) (B0 : 0 < B) (hw : Wds B xs) (hk : xs[k]? = some it) (ht : t = at0 xs (k + 1)) :
    val B (xs.drop k) / T = (t * B + it) / T % B + B * (val B (xs.drop (k + 1)) / T) := by
  have h1 := val_at0 B xs k
  rw [at0_get hk] at h1
  have h2 := val_at0 B xs (k + 1)
  rw [← ht] at h2
  rw [h1]
  exact right_turn hT hB B0 (hw.get hk).1 (hw.get hk).2 h2
theorem right_inv {B T N r : Int} {zs xs : List Int} {p i : Nat} (hl : zs.length = i) (h : N = val B zs + B ^ i * (val B (xs.drop (p + i)) / T)) (hs : val B (xs.drop (p + i)) / T = r + B * (val B (xs.drop (p + i + 1)) / T)) :
    N = val B (zs ++ [r]) + B ^ (i + 1) * (val B (xs.drop (p + (i + 1))) / T) := by
  rw [val_snoc, hl, Int.pow_succ, h, hs, Int.mul_add, Int.mul_assoc, show p + (i + 1) = p + i + 1 by omega]
  omega
theorem left_inv {B T F c r e w X : Int} {zs xs : List Int} {p i : Nat} (hl : zs.length = p + i) (hw : xs[i]? = some w) (h : val B zs + B ^ p * B ^ i * c = B ^ p * T * val B (xs.take i)) (h2 : w * T + c = r + B * e) :
    val B (zs ++ [r]) + B ^ p * B ^ (i + 1) * e = B ^ p * T * val B (xs.take (i + 1)) := by
  rw [val_snoc, hl, Int.pow_add, Int.pow_succ, val_turn hw]
  exact left_turn h h2
theorem left_end {B T c X : Int} {zs : List Int} {p n : Nat} (hl : zs.length = p + n) (h : val B zs + B ^ p * B ^ n * c = B ^ p * T * X) : val B (zs ++ [c]) = X * (B ^ p * T) := by
  rw [val_snoc, hl, Int.pow_add, h, Int.mul_comm]
theorem quo_b {q a b : Int} (h : q = a / b) (a0 : 0 ≤ a) (b0 : 0 < b) : 0 ≤ q ∧ q ≤ a := by
  subst h; exact ⟨Int.ediv_nonneg a0 (by omega), Int.ediv_le_self _ a0⟩
theorem right_end {B T : Int} {zs xs : List Int} {p n : Nat} (hB : 0 < B) (hw : Wds B xs) (hn : xs.length ≤ p + n) (h : val B (xs.drop p) / T = val B zs + B ^ n * (val B (xs.drop (p + n)) / T)) : val B zs = val B xs / (B ^ p * T) := by
  rw [List.drop_of_length_le hn, val_nil, Int.zero_ediv, Int.mul_zero, Int.add_zero, val_drop hB hw, Int.ediv_ediv_of_nonneg (Int.le_of_lt (Int.pow_pos hB))] at h
  exact h.symm
theorem quo_le {q a b c : Int} (h : q = a / b) (b0 : 0 < b) (hc : a < (c + 1) * b) : q ≤ c := by
  have := Int.ediv_lt_of_lt_mul b0 hc
  omega
theorem Lng.zero {B : Int} {xs : List Int} (h : xs.length = 0) : Lng B xs := by
  rw [List.length_eq_zero_iff.mp h]; exact Lng.nil
theorem num_turn {B n w o V : Int} (hn : n = V) (ho : o = n * B + w) : o = w + B * V := by
  rw [ho, hn, Int.mul_comm]; omega
theorem words_end {N V P n : Int} (h : N = V + P * n) (hn : n = 0) : V = N := by
  rw [h, hn, Int.mul_zero, Int.add_zero]
theorem quo_lt {q a b : Int} (h : q = a / b) (a0 : 0 < a) (b0 : 2 ≤ b) : q < a := by
  have e : a * 2 ≤ a * b := Int.mul_le_mul_of_nonneg_left b0 (by omega)
  have := Int.ediv_lt_of_lt_mul (by omega : 0 < b) (by omega : a < a * b)
  omega
theorem trim_at {l x : Int} {xs : List Int} (h0 : 0 < l) (h : xs[(l - 1).toNat]? = some x) (hx : x = 0) (hk : ∀ k, at0 (xs.take l.toNat) k = at0 xs k) : ∀ k, at0 (xs.take (l - 1).toNat) k = at0 xs k := by
  intro k
  rw [← hk k]
  have e : l.toNat = (l - 1).toNat + 1 := by omega
  rw [e, take_snoc h]
  unfold at0
  by_cases c : k < (xs.take (l - 1).toNat).length
  · rw [List.getElem?_append_left c]
  · rw [List.getElem?_append_right (by omega), List.getElem?_eq_none_iff.mpr (by omega)]
    by_cases d : k - (xs.take (l - 1).toNat).length = 0
    · rw [d, hx]; rfl
    · rw [List.getElem?_eq_none_iff.mpr (by rw [List.length_singleton]; omega)]
theorem wk_one {B t f w : Int} (hB : 0 < B) (e : t = f * B + w) (h0 : 0 ≤ w) (h1 : w < B) : t % B = w ∧ t / B = f := by
  refine ⟨by rw [e, Int.add_comm, Int.add_mul_emod_self_right, Int.emod_eq_of_lt h0 h1], ?_⟩
  rw [e, Int.add_comm, Int.add_mul_ediv_right _ _ (by omega), Int.ediv_eq_zero_of_lt h0 h1, Int.zero_add]
theorem wk_sum {B a b c y y2 x x2 : Int} (hB : 0 < B) (e1 : a + b = y * B + x) (e2 : x + c = y2 * B + x2) (h0 : 0 ≤ x2) (h1 : x2 < B) : (a + 1 * (b + c)) % B = x2 ∧ 1 * ((a + 1 * (b + c)) / B) = y + y2 := by
  rw [Int.one_mul, Int.one_mul]
  exact wk_one hB (by rw [Int.add_mul]; omega) h0 h1
theorem wk_gap {B a b c y y2 x x2 : Int} (hB : 0 < B) (e1 : a - b = x - y * B) (e2 : x - c = x2 - y2 * B) (h0 : 0 ≤ x2) (h1 : x2 < B) : (a + -1 * (b + c)) % B = x2 ∧ -1 * ((a + -1 * (b + c)) / B) = y + y2 := by
  have z := wk_one (t := a + -1 * (b + c)) (f := -(y + y2)) hB (by rw [show -(y + y2) * B = -((y + y2) * B) from Int.neg_mul _ _, Int.add_mul]; omega) h0 h1
  exact ⟨z.1, by rw [z.2]; omega⟩

def BadL (B : Int) (xs : List Int) : Prop := (∃ x ∈ xs, ¬ (0 ≤ x ∧ x < B)) ∨ xs.getLast? = some 0
theorem bad_set {B v : Int} {xs : List Int} {i : Nat} (hi : i < xs.length) (hv : ¬ (0 ≤ v ∧ v < B)) : BadL B (xs.set i v) := .inl ⟨v, List.mem_set hi v, hv⟩
theorem bad_snoc {B : Int} {xs : List Int} : BadL B (xs ++ [0]) := .inr List.getLast?_concat
theorem bad_nil {B : Int} {xs : List Int} (h : BadL B xs) (hw : Wds B xs) (h0 : xs.length = 0) : False := by
  rcases h with ⟨x, hx, hb⟩ | hl
  · exact hb (hw x hx)
  · rw [List.length_eq_zero_iff.mp h0] at hl; cases hl
theorem bad_last {B x : Int} {xs : List Int} (h : BadL B xs) (hw : Wds B xs) (h0 : xs.getLast? = some x) : x = 0 := by
  rcases h with ⟨x, hx, hb⟩ | hl
  · exact absurd (hw x hx) hb
  · exact Option.some.inj (h0.symm.trans hl)
theorem sh_lt {x w q : Int} (h : q = x / 2 ^ w.toNat) (hq : ¬ 0 < q) (h0 : 0 ≤ x) : x < 2 ^ w.toNat := by
  have hp := p2 w.toNat
  have e := Int.emod_add_mul_ediv x (2 ^ w.toNat)
  have l := Int.emod_lt_of_pos x hp
  rw [← h] at e
  have n : (2 : Int) ^ w.toNat * q ≤ 0 := Int.mul_nonpos_of_nonneg_of_nonpos (by omega) (by omega)
  omega
theorem lng_snoc {B v : Int} {xs : List Int} (h : Lng B xs) (h0 : 0 < v) (h1 : v < B) : Lng B (xs ++ [v]) := by
  refine ⟨h.1.snoc (by omega) h1, fun y hy => ?_⟩
  rw [List.getLast?_concat] at hy
  have : v = y := Option.some.inj hy
  omega
theorem val_top {w v : Int} {xs : List Int} {l : Int} (hw : 0 ≤ w) (hl : l = (xs.length : Int)) : val (2 ^ w.toNat) (xs ++ [v]) = val (2 ^ w.toNat) xs + v * 2 ^ (w * l).toNat := by
  rw [val_snoc, hl, Int.toNat_mul hw (by omega), Int.toNat_natCast, Int.pow_mul, Int.mul_comm v]
theorem mul_rng2 {w l : Int} (w0 : 0 ≤ w) (w1 : w ≤ 32) (l0 : 0 ≤ l) (l1 : l ≤ 39) : 0 ≤ w * l ∧ w * l ≤ 1248 := by
  refine ⟨Int.mul_nonneg w0 l0, ?_⟩
  have := Int.mul_le_mul w1 l1 l0 (by decide)
  omega

def top (i : Nat) : Stmt := PySem.Challenge.pw_overwise_k51_longs_and_numbers.main.body.getD i (.Pass ⟨0, 0, 0, 0⟩)
abbrev s_l_drawn : Stmt := top 15
theorem sc_l_drawn : FnScope ["_law_cell", "_law_sizes", "_law_found", "_law_many", "_law_one", "_law_other"] ["_law_cell", "_law_sizes"] (defScope s_l_drawn) := ⟨rfl, rfl, rfl, by decide +kernel, rfl, by decide +kernel, by decide +kernel⟩
abbrev s_l_long : Stmt := top 16
theorem sc_l_long : FnScope ["_law_draws", "_law_at", "_law_many", "_law_width", "_law_big", "_law_menu", "_law_words", "_law_k", "_law_kind", "_law_raw"] ["_law_draws", "_law_at", "_law_many", "_law_width"] (defScope s_l_long) := ⟨rfl, rfl, rfl, by decide +kernel, rfl, by decide +kernel, by decide +kernel⟩
abbrev s_l_row : Stmt := top 20
theorem sc_l_row : FnScope ["_law_cell", "_law_draws", "_law_width", "_law_words", "_law_k"] ["_law_cell"] (defScope s_l_row) := ⟨rfl, rfl, rfl, by decide +kernel, rfl, by decide +kernel, by decide +kernel⟩
abbrev s_l_number : Stmt := top 17
theorem sc_l_number : FnScope ["_law_words", "_law_width", "_law_number_here", "_law_word"] ["_law_words", "_law_width"] (defScope s_l_number) := ⟨rfl, rfl, rfl, by decide +kernel, rfl, by decide +kernel, by decide +kernel⟩
abbrev s_is_whole : Stmt := top 7
theorem sc_is_whole : FnScope ["thing"] ["thing"] (defScope s_is_whole) := ⟨rfl, rfl, rfl, by decide +kernel, rfl, by decide +kernel, by decide +kernel⟩
abbrev s_need_width : Stmt := top 8
theorem sc_need_width : FnScope ["width"] ["width"] (defScope s_need_width) := ⟨rfl, rfl, rfl, by decide +kernel, rfl, by decide +kernel, by decide +kernel⟩
abbrev s_long_of : Stmt := top 12
theorem sc_long_of : FnScope ["width", "number", "most", "words"] ["width", "number"] (defScope s_long_of) := ⟨rfl, rfl, rfl, by decide +kernel, rfl, by decide +kernel, by decide +kernel⟩
abbrev s_is_long : Stmt := top 10
theorem sc_is_long : FnScope ["width", "thing", "word"] ["width", "thing"] (defScope s_is_long) := ⟨rfl, rfl, rfl, by decide +kernel, rfl, by decide +kernel, by decide +kernel⟩
abbrev s_need_long : Stmt := top 11
theorem sc_need_long : FnScope ["width", "thing"] ["width", "thing"] (defScope s_need_long) := ⟨rfl, rfl, rfl, by decide +kernel, rfl, by decide +kernel, by decide +kernel⟩
abbrev s_number_of : Stmt := top 13
theorem sc_number_of : FnScope ["width", "one", "number", "word"] ["width", "one"] (defScope s_number_of) := ⟨rfl, rfl, rfl, by decide +kernel, rfl, by decide +kernel, by decide +kernel⟩
abbrev s_l_whole : Stmt := top 18
theorem sc_l_whole : FnScope ["_law_found"] ["_law_found"] (defScope s_l_whole) := ⟨rfl, rfl, rfl, by decide +kernel, rfl, by decide +kernel, by decide +kernel⟩
abbrev s_l_same : Stmt := top 19
theorem sc_l_same : FnScope ["_law_found", "_law_due", "_law_k"] ["_law_found", "_law_due"] (defScope s_l_same) := ⟨rfl, rfl, rfl, by decide +kernel, rfl, by decide +kernel, by decide +kernel⟩
abbrev s_l_none : Stmt := top 21
theorem sc_l_none : FnScope ["_law_width", "_law_words", "_law_at", "_law_big", "_law_bad", "_law_row_here"] ["_law_width", "_law_words", "_law_at"] (defScope s_l_none) := ⟨rfl, rfl, rfl, by decide +kernel, rfl, by decide +kernel, by decide +kernel⟩
abbrev s_law : Stmt := top 22
theorem sc_law : FnScope ["_law_script", "_law_cell", "_law_width", "_law_words", "_law_at", "_law_number_here", "_law_told", "_law_handed", "_law_found"] ["_law_script"] (defScope s_law) := ⟨rfl, rfl, rfl, by decide +kernel, rfl, by decide +kernel, by decide +kernel⟩
structure Tx (K : PySem.W.Frag) (mg : Str → Option Value) : Type where
  d_l_drawn : Ow.Dk K mg "_law_drawn" "_law_drawn" s_l_drawn ["_law_cell", "_law_sizes"]
  d_l_long : Ow.Dk K mg "_law_long" "_law_long" s_l_long ["_law_draws", "_law_at", "_law_many", "_law_width"]
  d_l_row : Ow.Dk K mg "_law_row" "_law_row" s_l_row ["_law_cell"]
  d_l_number : Ow.Dk K mg "_law_number" "_law_number" s_l_number ["_law_words", "_law_width"]
  d_is_whole : Ow.Dk K mg "is_whole" "is_whole" s_is_whole ["thing"]
  d_need_width : Ow.Dk K mg "need_width" "need_width" s_need_width ["width"]
  d_long_of : Ow.Dk K mg "long_of" "long_of" s_long_of ["width", "number"]
  d_is_long : Ow.Dk K mg "is_long" "is_long" s_is_long ["width", "thing"]
  d_need_long : Ow.Dk K mg "need_long" "need_long" s_need_long ["width", "thing"]
  d_number_of : Ow.Dk K mg "number_of" "number_of" s_number_of ["width", "one"]
  d_l_whole : Ow.Dk K mg "_law_whole" "_law_whole" s_l_whole ["_law_found"]
  d_l_same : Ow.Dk K mg "_law_same" "_law_same" s_l_same ["_law_found", "_law_due"]
  d_l_none : Ow.Dk K mg "_law_none" "_law_none" s_l_none ["_law_width", "_law_words", "_law_at"]
  d_law : Ow.Dk K mg "law" "law" s_law ["_law_script"]
  g_LEAST_WIDTH : ∃ t, mg "LEAST_WIDTH" = some (.int 4 t)
  g_GREATEST_WIDTH : ∃ t, mg "GREATEST_WIDTH" = some (.int 32 t)
  z_range : mg "range" = none
  z_len : mg "len" = none
  z_max : mg "max" = none
  z_isinstance : mg "isinstance" = none
  z_bool : mg "bool" = none
  z_int : mg "int" = none
  z_list : mg "list" = none
  z_tuple : mg "tuple" = none
def sp_l_drawn {K : PySem.W.Frag} {mg : Str → Option Value} (T : Tx K mg) : Sp := fun vs H Q E => ∃ (cell : Int) (sizes : Addr) (ms : List Int), vs = [.int cell, .ref sizes] ∧ H sizes = some (.lst (ms.map V.int)) ∧ (∀ m ∈ ms, 0 < m ∧ m ≤ 4294967296) ∧ (ms.length ≤ 100) ∧ (∀ (rs : List Int), (Ow.Drw rs ms) → ∀ aq H', Same H H' → H aq = none → H' aq = some (.lst (rs.map V.int)) → Q (.ref aq) H')
def sp_l_long {K : PySem.W.Frag} {mg : Str → Option Value} (T : Tx K mg) : Sp := fun vs H Q E => ∃ (draws : Addr) (pos : Int) (many : Int) (width : Int) (rs : List Int), vs = [.ref draws, .int pos, .int many, .int width] ∧ H draws = some (.lst (rs.map V.int)) ∧ (0 ≤ pos) ∧ (0 ≤ many) ∧ (many ≤ 6) ∧ (pos + 2 * many ≤ rs.length) ∧ (4 ≤ width) ∧ (width ≤ 32) ∧ (∀ (ys : List Int), (Ow.Lng (2 ^ width.toNat) ys) → (ys.length = many.toNat) → ∀ aq H', Same H H' → H aq = none → H' aq = some (.lst (ys.map V.int)) → Q (.ref aq) H')
def sp_l_row {K : PySem.W.Frag} {mg : Str → Option Value} (T : Tx K mg) : Sp := fun vs H Q E => ∃ (cell : Int), vs = [.int cell] ∧ (∀ (width : Int), ∀ (t : Int), ∀ (xs : List Int), (4 ≤ width) → (width ≤ 32) → (Ow.Lng (2 ^ width.toNat) xs) → (xs.length ≤ 39) → ∀ aq q1 H', Same H H' → H aq = none → H q1 = none → H' aq = some (.tup [.int (width), .ref q1, .int (t)]) → H' q1 = some (.lst (xs.map V.int)) → Q (.ref aq) H')
def sp_l_number {K : PySem.W.Frag} {mg : Str → Option Value} (T : Tx K mg) : Sp := fun vs H Q E => ∃ (words : Addr) (width : Int) (xs : List Int), vs = [.ref words, .int width] ∧ H words = some (.lst (xs.map V.int)) ∧ (Ow.Wds (2 ^ width.toNat) xs) ∧ (xs.length ≤ 80) ∧ (4 ≤ width) ∧ (width ≤ 32) ∧ (∀ (r : Int), (r = Ow.val (2 ^ width.toNat) xs) → (0 ≤ r) → (Ow.Sz 2560 r) → ∀ H', Same H H' → Q (.int (r)) H')
def sp_is_whole {K : PySem.W.Frag} {mg : Str → Option Value} (T : Tx K mg) : Sp := fun vs H Q E => (∃ (thing : Int), vs = [.int thing] ∧ (Q (.bl (true)) H)) ∨ (∃ (thing : Bool), vs = [.bl thing] ∧ (Q (.bl (false)) H)) ∨ (∃ (thing : Str), vs = [.str thing] ∧ (Q (.bl (false)) H)) ∨ (vs = [.non] ∧ (Q (.bl (false)) H)) ∨ (∃ (thing : Addr) (z : Int), vs = [.ref thing] ∧ H thing = some (.lst [.int (z)]) ∧ (Q (.bl (false)) H))
def sp_need_width {K : PySem.W.Frag} {mg : Str → Option Value} (T : Tx K mg) : Sp := fun vs H Q E => ∃ (width : Int), vs = [.int width] ∧ (4 ≤ width) ∧ (width ≤ 32) ∧ (Q (.non) H)
def sp_long_of {K : PySem.W.Frag} {mg : Str → Option Value} (T : Tx K mg) : Sp := fun vs H Q E => ∃ (width : Int) (number : Int), vs = [.int width, .int number] ∧ (4 ≤ width) ∧ (width ≤ 32) ∧ (0 ≤ number) ∧ (Ow.Sz 5300 number) ∧ (∀ (ys : List Int), (Ow.Lng (2 ^ width.toNat) ys) → (Ow.val (2 ^ width.toNat) ys = number) → (ys.length ≤ 5300) → ∀ aq H', Same H H' → H aq = none → H' aq = some (.lst (ys.map V.int)) → Q (.ref aq) H')
def sp_is_long {K : PySem.W.Frag} {mg : Str → Option Value} (T : Tx K mg) : Sp := fun vs H Q E => (∃ (width : Int) (thing : Addr) (xs : List Int), vs = [.int width, .ref thing] ∧ (4 ≤ width) ∧ (width ≤ 32) ∧ H thing = some (.lst (xs.map V.int)) ∧ (Ow.Lng (2 ^ width.toNat) xs) ∧ (∀ H', Same H H' → Q (.bl (true)) H')) ∨ (∃ (width : Int) (thing : Addr) (xs : List Int), vs = [.int width, .ref thing] ∧ (4 ≤ width) ∧ (width ≤ 32) ∧ H thing = some (.lst (xs.map V.int)) ∧ (Ow.BadL (2 ^ width.toNat) xs) ∧ (∀ H', Same H H' → Q (.bl (false)) H')) ∨ (∃ (width : Int) (thing : Addr) (ps : List Int) (b : Bool) (rest : List V), vs = [.int width, .ref thing] ∧ (4 ≤ width) ∧ (width ≤ 32) ∧ H thing = some (.lst (ps.map V.int ++ V.bl (b) :: rest)) ∧ (∀ H', Same H H' → Q (.bl (false)) H')) ∨ (∃ (width : Int) (thing : Addr) (ps : List Int) (t : Str) (rest : List V), vs = [.int width, .ref thing] ∧ (4 ≤ width) ∧ (width ≤ 32) ∧ H thing = some (.lst (ps.map V.int ++ V.str (t) :: rest)) ∧ (∀ H', Same H H' → Q (.bl (false)) H')) ∨ (∃ (width : Int) (thing : Addr) (ps : List Int) (rest : List V), vs = [.int width, .ref thing] ∧ (4 ≤ width) ∧ (width ≤ 32) ∧ H thing = some (.lst (ps.map V.int ++ V.non :: rest)) ∧ (∀ H', Same H H' → Q (.bl (false)) H')) ∨ (∃ (width : Int) (thing : Addr) (ps : List Int) (u : Addr) (z : Int) (rest : List V), vs = [.int width, .ref thing] ∧ (4 ≤ width) ∧ (width ≤ 32) ∧ H thing = some (.lst (ps.map V.int ++ V.ref u :: rest)) ∧ H u = some (.lst [.int (z)]) ∧ (∀ H', Same H H' → Q (.bl (false)) H')) ∨ (∃ (width : Int) (thing : Addr) (xs : List Int), vs = [.int width, .ref thing] ∧ (4 ≤ width) ∧ (width ≤ 32) ∧ H thing = some (.tup (xs.map V.int)) ∧ (∀ H', Same H H' → Q (.bl (false)) H')) ∨ (∃ (width : Int), vs = [.int width, .non] ∧ (4 ≤ width) ∧ (width ≤ 32) ∧ (∀ H', Same H H' → Q (.bl (false)) H'))
def sp_need_long {K : PySem.W.Frag} {mg : Str → Option Value} (T : Tx K mg) : Sp := fun vs H Q E => ∃ (width : Int) (thing : Addr) (xs : List Int), vs = [.int width, .ref thing] ∧ (4 ≤ width) ∧ (width ≤ 32) ∧ H thing = some (.lst (xs.map V.int)) ∧ (Ow.Lng (2 ^ width.toNat) xs) ∧ (∀ aq H', Same H H' → H aq = none → H' aq = some (.lst (xs.map V.int)) → Q (.ref aq) H')
def sp_number_of {K : PySem.W.Frag} {mg : Str → Option Value} (T : Tx K mg) : Sp := fun vs H Q E => ∃ (width : Int) (one : Addr) (xs : List Int), vs = [.int width, .ref one] ∧ (4 ≤ width) ∧ (width ≤ 32) ∧ H one = some (.lst (xs.map V.int)) ∧ (Ow.Lng (2 ^ width.toNat) xs) ∧ (xs.length ≤ 80) ∧ (∀ (r : Int), (r = Ow.val (2 ^ width.toNat) xs) → (0 ≤ r) → (Ow.Sz 2560 r) → ∀ H', Same H H' → Q (.int (r)) H')
def sp_l_whole {K : PySem.W.Frag} {mg : Str → Option Value} (T : Tx K mg) : Sp := fun vs H Q E => ∃ (found : Int), vs = [.int found] ∧ (Q (.bl (true)) H)
def sp_l_same {K : PySem.W.Frag} {mg : Str → Option Value} (T : Tx K mg) : Sp := fun vs H Q E => ∃ (found : Addr) (due : Addr) (xs : List Int) (ys : List Int), vs = [.ref found, .ref due] ∧ H found = some (.lst (xs.map V.int)) ∧ H due = some (.lst (ys.map V.int)) ∧ (xs = ys) ∧ (xs.length < 100000) ∧ (∀ H', Same H H' → Q (.bl (true)) H')
def sp_l_none {K : PySem.W.Frag} {mg : Str → Option Value} (T : Tx K mg) : Sp := fun vs H Q E => ∃ (width : Int) (words : Addr) (pos : Int) (xs : List Int), vs = [.int width, .ref words, .int pos] ∧ (4 ≤ width) ∧ (width ≤ 32) ∧ H words = some (.lst (xs.map V.int)) ∧ (Ow.Lng (2 ^ width.toNat) xs) ∧ (xs.length ≤ 39) ∧ (∀ H', Same H H' → Q (.bl (true)) H')
def sp_law (K : PySem.W.Frag) : Sp := fun vs H Q E => ∃ (script : Addr) (ns : List Int), vs = [.ref script] ∧ SqL K H script (ns.map V.int) ∧ (ns.length ≤ 63) ∧ (∀ H', Same H H' → Q (.bl (true)) H')
section
variable {P : Program} {w : World} {K : PySem.W.Frag} {mg : Str → Option Value} {base : Heap}
theorem ok_l_drawn (T : Tx K mg) : FnOk P w K mg base CX0 1 T.d_l_drawn.f T.d_l_drawn.fd ["_law_cell", "_law_sizes"] (sp_l_drawn T) := by
  refine T.d_l_drawn.F.ok sc_l_drawn (fun vs H Q E h => ?_) (fun cdv A outer s H vs Q E hr h => ?_)
  · obtain ⟨cell, sizes, ms, rfl, _⟩ := h
    rfl
  · obtain ⟨cell, sizes, ms, rfl, c0, c1, c2, kont⟩ := h
    refine ⟨_, (pss_cons (ps_set (i := 2) sc_l_drawn.nd rfl (Or.inl rfl) (pe_lst pa_nil))
        (pss_cons (ps_if (pt_cmpR op_ge (pv 0) (Ow.pe_lit (1000000000000000000) (pe_op op_pow pe_int pe_int)) (nomark _)) (pss_cons (ps_for PassesOwn.never rfl (pi_list (pv 1)) (pg_name (i := 3) sc_l_drawn.nd rfl (Or.inl rfl)) (pss_cons (ps_expr (pe_bm PySem.F.plainAttrs_list PySem.F.slot_list_append PySem.F.type_list_append mt_append (pv 2) (pa_cons (pe_op Ow.op_modN (pv 0) (pv 3)) pa_nil)))
        (pss_one (ps_set (i := 0) sc_l_drawn.nd rfl (Or.inl rfl) (pe_op Ow.op_divN (pv 0) (pv 3))))))
        (pss_one (ps_ret (pv 2)))) pss_nil)
        (pss_cons (ps_set (i := 4) sc_l_drawn.nd rfl (Or.inl rfl) (pe_op Ow.op_modN (pe_op op_add (pe_op Ow.op_mulN (pv 0) pe_int) pe_int) pe_int))
        (pss_cons (ps_set (i := 5) sc_l_drawn.nd rfl (Or.inl rfl) (pe_op Ow.op_modN (pe_op op_add (pe_op Ow.op_mulN (pv 0) pe_int) pe_int) pe_int))
        (pss_cons (ps_set (i := 4) sc_l_drawn.nd rfl (Or.inl rfl) (pe_op Ow.op_modN (pe_op op_add (pe_op op_add (pe_op Ow.op_mulN (pv 4) (pv 4)) (pe_op Ow.op_mulN pe_int (pv 4))) pe_int) pe_int))
        (pss_cons (ps_for PassesOwn.never rfl (pi_list (pv 1)) (pg_name (i := 3) sc_l_drawn.nd rfl (Or.inl rfl)) (pss_cons (ps_set (i := 4) sc_l_drawn.nd rfl (Or.inl rfl) (pe_op Ow.op_modN (pe_op op_add (pe_op op_add (pe_op Ow.op_mulN (pv 4) (pv 4)) (pe_op Ow.op_mulN pe_int (pv 4))) pe_int) pe_int))
        (pss_cons (ps_set (i := 5) sc_l_drawn.nd rfl (Or.inl rfl) (pe_op Ow.op_modN (pe_op op_add (pe_op op_add (pe_op Ow.op_mulN (pv 5) pe_int) (pe_op Ow.op_mulN pe_int (pe_op Ow.op_modN (pv 4) pe_int))) pe_int) pe_int))
        (pss_one (ps_expr (pe_bm PySem.F.plainAttrs_list PySem.F.slot_list_append PySem.F.type_list_append mt_append (pv 2) (pa_cons (pe_op Ow.op_modN (pe_op op_add (pe_op Ow.op_mulN (pv 4) pe_int) (pv 5)) (pv 3)) pa_nil)))))))
        (pss_one (ps_ret (pv 2))))))))), ?_⟩
    refine ⟨by show 0 ≤ sizeLine; decide, fun p h_p => ?_⟩
    refine ⟨_, rfl, ?_⟩
    refine ⟨_, _, rfl, rfl, ⟨by decide, by decide, by decide⟩, ?_⟩
    refine ⟨by decide, ?_⟩
    refine ⟨_, _, rfl, rfl, ?_⟩
    refine ⟨_, rfl, ?_⟩
    refine Ow.ifd (fun h1 => ?_) (fun h1 => ?_)
    · refine ⟨_, rfl, ?_⟩
      refine ⟨_, rfl, ⟨_, (SqL.of (Ow.at_new h_p c0))⟩, ?_⟩
      refine for_list (K := K) (a := sizes) (xs := (ms.map V.int)) (fun ixv σ2 H2 => ∃ (p : Addr) (rs : List Int) (c : Int) (v_3 : Option V) (v_4 : Option V) (v_5 : Option V), σ2 = [some (.int (c)), some (.ref sizes), some (.ref p), v_3, v_4, v_5] ∧ Same H H2 ∧ H2 p = some (.lst (rs.map V.int)) ∧ H p = none ∧ (Ow.Drw rs (List.take ixv ms)) ∧ True) ⟨p, [], cell, _, _, _, rfl, (Ow.same_new h_p), upd_same, h_p, (by first | exact Ow.Drw.nil | assumption), trivial⟩ (fun i σ2 H2 _ hz => ?_) ?_ ?_
      · obtain ⟨p_2, rs, c, _, _, _, rfl, h2, h3, h4, h5, _⟩ := hz
        exact (SqL.of (h2 _ _ c0))
      · rintro i xit _ Hn h6 ⟨p_3, rs_2, c_2, _, _, _, rfl, h7, h8, h9, h10, _⟩
        obtain ⟨l_many, rfl, h_l_many⟩ := Ow.ints_get (xs := ms) h6
        have hm := c1 l_many (List.mem_of_getElem? h_l_many)
        refine ⟨_, rfl, ?_⟩
        refine ⟨.inl ⟨rfl, _, (SqL.of h8)⟩, ?_⟩
        refine ⟨_, rfl, ?_⟩
        refine ⟨_, rfl, ?_⟩
        refine ⟨_, _, rfl, rfl, (by first | assumption | exact (by assumption : Ow.Lng _ _).1 | exact Or.inr (Ow.mulx (a := 1280) (b := 1280) (by assumption) (by assumption) (by decide)) | assumption | exact Ow.divw64 (by omega) (by omega) | exact Ow.mul0 ⟨by omega, by omega⟩ | exact Ow.mul1 ⟨by omega, by omega⟩ | exact Ow.shl0 (by omega) (by omega) (by omega) | exact ⟨by omega, by omega⟩ | exact ⟨by omega, by omega, by omega⟩ | omega | (simp only [List.length_append, List.length_cons, List.length_nil]; omega) | (subst_vars; omega)), fun r h_r h0_r h1_r => ?_⟩
        refine ⟨_, _, _, rfl, rfl, h8, (Ow.szl (by rw [List.length_map]; have l1 := (by assumption : Ow.Drw _ _).len; rw [List.length_take] at l1; omega)), ?_⟩
        refine ⟨_, rfl, ?_⟩
        refine ⟨_, rfl, ?_⟩
        refine ⟨_, _, rfl, rfl, (by first | assumption | exact (by assumption : Ow.Lng _ _).1 | exact Or.inr (Ow.mulx (a := 1280) (b := 1280) (by assumption) (by assumption) (by decide)) | assumption | exact Ow.divw64 (by omega) (by omega) | exact Ow.mul0 ⟨by omega, by omega⟩ | exact Ow.mul1 ⟨by omega, by omega⟩ | exact Ow.shl0 (by omega) (by omega) (by omega) | exact ⟨by omega, by omega⟩ | exact ⟨by omega, by omega, by omega⟩ | omega | (simp only [List.length_append, List.length_cons, List.length_nil]; omega) | (subst_vars; omega)), fun l_cell h_l_cell => ?_⟩
        exact ⟨p_3, (rs_2 ++ [r]), l_cell, _, _, _, rfl, (Ow.same_mut h7 h9), (Ow.ap_ints upd_same), h9, (by first | assumption | exact Ow.Drw.turn (by assumption) (by assumption) (by assumption) (by assumption)), trivial⟩
      · rintro _ Hn_2 ⟨p_4, rs_3, c_3, _, _, _, rfl, h11, h12, h13, h14, _⟩
        have hd := Ow.Drw.all h14 rfl
        refine ⟨_, rfl, ?_⟩
        exact kont rs_3 (by exact hd) _ _ h11 h13 h12
    · refine ⟨_, rfl, ?_⟩
      refine ⟨_, _, rfl, rfl, (by first | assumption | exact (by assumption : Ow.Lng _ _).1 | exact Or.inr (Ow.mulx (a := 1280) (b := 1280) (by assumption) (by assumption) (by decide)) | assumption | exact Ow.divw64 (by omega) (by omega) | exact Ow.mul0 ⟨by omega, by omega⟩ | exact Ow.mul1 ⟨by omega, by omega⟩ | exact Ow.shl0 (by omega) (by omega) (by omega) | exact ⟨by omega, by omega⟩ | exact ⟨by omega, by omega, by omega⟩ | omega | (simp only [List.length_append, List.length_cons, List.length_nil]; omega) | (subst_vars; omega)), fun m h_m => ?_⟩
      refine ⟨_, _, rfl, rfl, ?_⟩
      refine ⟨_, _, rfl, rfl, (by first | assumption | exact (by assumption : Ow.Lng _ _).1 | exact Or.inr (Ow.mulx (a := 1280) (b := 1280) (by assumption) (by assumption) (by decide)) | assumption | exact Ow.divw64 (by omega) (by omega) | exact Ow.mul0 ⟨by omega, by omega⟩ | exact Ow.mul1 ⟨by omega, by omega⟩ | exact Ow.shl0 (by omega) (by omega) (by omega) | exact ⟨by omega, by omega⟩ | exact ⟨by omega, by omega, by omega⟩ | omega | (simp only [List.length_append, List.length_cons, List.length_nil]; omega) | (subst_vars; omega)), fun l_one h_l_one h0_l_one h1_l_one => ?_⟩
      refine ⟨_, rfl, ?_⟩
      refine ⟨_, _, rfl, rfl, (by first | assumption | exact (by assumption : Ow.Lng _ _).1 | exact Or.inr (Ow.mulx (a := 1280) (b := 1280) (by assumption) (by assumption) (by decide)) | assumption | exact Ow.divw64 (by omega) (by omega) | exact Ow.mul0 ⟨by omega, by omega⟩ | exact Ow.mul1 ⟨by omega, by omega⟩ | exact Ow.shl0 (by omega) (by omega) (by omega) | exact ⟨by omega, by omega⟩ | exact ⟨by omega, by omega, by omega⟩ | omega | (simp only [List.length_append, List.length_cons, List.length_nil]; omega) | (subst_vars; omega)), fun m_2 h_m_2 => ?_⟩
      refine ⟨_, _, rfl, rfl, ?_⟩
      refine ⟨_, _, rfl, rfl, (by first | assumption | exact (by assumption : Ow.Lng _ _).1 | exact Or.inr (Ow.mulx (a := 1280) (b := 1280) (by assumption) (by assumption) (by decide)) | assumption | exact Ow.divw64 (by omega) (by omega) | exact Ow.mul0 ⟨by omega, by omega⟩ | exact Ow.mul1 ⟨by omega, by omega⟩ | exact Ow.shl0 (by omega) (by omega) (by omega) | exact ⟨by omega, by omega⟩ | exact ⟨by omega, by omega, by omega⟩ | omega | (simp only [List.length_append, List.length_cons, List.length_nil]; omega) | (subst_vars; omega)), fun l_other h_l_other h0_l_other h1_l_other => ?_⟩
      refine ⟨_, rfl, ?_⟩
      refine ⟨_, rfl, ?_⟩
      refine ⟨_, _, rfl, rfl, (by first | assumption | exact (by assumption : Ow.Lng _ _).1 | exact Or.inr (Ow.mulx (a := 1280) (b := 1280) (by assumption) (by assumption) (by decide)) | assumption | exact Ow.divw64 (by omega) (by omega) | exact Ow.mul0 ⟨by omega, by omega⟩ | exact Ow.mul1 ⟨by omega, by omega⟩ | exact Ow.shl0 (by omega) (by omega) (by omega) | exact ⟨by omega, by omega⟩ | exact ⟨by omega, by omega, by omega⟩ | omega | (simp only [List.length_append, List.length_cons, List.length_nil]; omega) | (subst_vars; omega)), fun m_3 h_m_3 => ?_⟩
      refine ⟨_, rfl, ?_⟩
      refine ⟨_, _, rfl, rfl, (by first | assumption | exact (by assumption : Ow.Lng _ _).1 | exact Or.inr (Ow.mulx (a := 1280) (b := 1280) (by assumption) (by assumption) (by decide)) | assumption | exact Ow.divw64 (by omega) (by omega) | exact Ow.mul0 ⟨by omega, by omega⟩ | exact Ow.mul1 ⟨by omega, by omega⟩ | exact Ow.shl0 (by omega) (by omega) (by omega) | exact ⟨by omega, by omega⟩ | exact ⟨by omega, by omega, by omega⟩ | omega | (simp only [List.length_append, List.length_cons, List.length_nil]; omega) | (subst_vars; omega)), fun m_4 h_m_4 => ?_⟩
      refine ⟨_, _, rfl, rfl, ?_⟩
      refine ⟨_, _, rfl, rfl, ?_⟩
      refine ⟨_, _, rfl, rfl, (by first | assumption | exact (by assumption : Ow.Lng _ _).1 | exact Or.inr (Ow.mulx (a := 1280) (b := 1280) (by assumption) (by assumption) (by decide)) | assumption | exact Ow.divw64 (by omega) (by omega) | exact Ow.mul0 ⟨by omega, by omega⟩ | exact Ow.mul1 ⟨by omega, by omega⟩ | exact Ow.shl0 (by omega) (by omega) (by omega) | exact ⟨by omega, by omega⟩ | exact ⟨by omega, by omega, by omega⟩ | omega | (simp only [List.length_append, List.length_cons, List.length_nil]; omega) | (subst_vars; omega)), fun l_one_2 h_l_one_2 h0_l_one_2 h1_l_one_2 => ?_⟩
      refine ⟨_, rfl, ?_⟩
      refine ⟨_, rfl, ⟨_, (SqL.of (Ow.at_new h_p c0))⟩, ?_⟩
      refine for_list (K := K) (a := sizes) (xs := (ms.map V.int)) (fun ixv σ2 H2 => ∃ (p : Addr) (rs : List Int) (on : Int) (ot : Int) (v_3 : Option V), σ2 = [some (.int (cell)), some (.ref sizes), some (.ref p), v_3, some (.int (on)), some (.int (ot))] ∧ Same H H2 ∧ H2 p = some (.lst (rs.map V.int)) ∧ H p = none ∧ (Ow.Drw rs (List.take ixv ms)) ∧ (0 ≤ on) ∧ (on < 2147483647) ∧ (0 ≤ ot) ∧ (ot < 998244353) ∧ True) ⟨p, [], l_one_2, l_other, _, rfl, (Ow.same_new h_p), upd_same, h_p, (by first | exact Ow.Drw.nil | assumption), (by first | exact Ow.Drw.nil | assumption), (by first | exact Ow.Drw.nil | assumption), (by first | exact Ow.Drw.nil | assumption), (by first | exact Ow.Drw.nil | assumption), trivial⟩ (fun i σ2 H2 _ hz => ?_) ?_ ?_
      · obtain ⟨p_5, rs_4, on, ot, _, rfl, h15, h16, h17, h18, h19, h20, h21, h22, _⟩ := hz
        exact (SqL.of (h15 _ _ c0))
      · rintro i_2 xit _ Hn_3 h23 ⟨p_6, rs_5, on_2, ot_2, _, rfl, h24, h25, h26, h27, h28, h29, h30, h31, _⟩
        obtain ⟨l_many_2, rfl, h_l_many_2⟩ := Ow.ints_get (xs := ms) h23
        have hm := c1 l_many_2 (List.mem_of_getElem? h_l_many_2)
        refine ⟨_, rfl, ?_⟩
        refine ⟨_, rfl, ?_⟩
        refine ⟨_, _, rfl, rfl, (by first | assumption | exact (by assumption : Ow.Lng _ _).1 | exact Or.inr (Ow.mulx (a := 1280) (b := 1280) (by assumption) (by assumption) (by decide)) | assumption | exact Ow.divw64 (by omega) (by omega) | exact Ow.mul0 ⟨by omega, by omega⟩ | exact Ow.mul1 ⟨by omega, by omega⟩ | exact Ow.shl0 (by omega) (by omega) (by omega) | exact ⟨by omega, by omega⟩ | exact ⟨by omega, by omega, by omega⟩ | omega | (simp only [List.length_append, List.length_cons, List.length_nil]; omega) | (subst_vars; omega)), fun m_5 h_m_5 => ?_⟩
        refine ⟨_, rfl, ?_⟩
        refine ⟨_, _, rfl, rfl, (by first | assumption | exact (by assumption : Ow.Lng _ _).1 | exact Or.inr (Ow.mulx (a := 1280) (b := 1280) (by assumption) (by assumption) (by decide)) | assumption | exact Ow.divw64 (by omega) (by omega) | exact Ow.mul0 ⟨by omega, by omega⟩ | exact Ow.mul1 ⟨by omega, by omega⟩ | exact Ow.shl0 (by omega) (by omega) (by omega) | exact ⟨by omega, by omega⟩ | exact ⟨by omega, by omega, by omega⟩ | omega | (simp only [List.length_append, List.length_cons, List.length_nil]; omega) | (subst_vars; omega)), fun m_6 h_m_6 => ?_⟩
        refine ⟨_, _, rfl, rfl, ?_⟩
        refine ⟨_, _, rfl, rfl, ?_⟩
        refine ⟨_, _, rfl, rfl, (by first | assumption | exact (by assumption : Ow.Lng _ _).1 | exact Or.inr (Ow.mulx (a := 1280) (b := 1280) (by assumption) (by assumption) (by decide)) | assumption | exact Ow.divw64 (by omega) (by omega) | exact Ow.mul0 ⟨by omega, by omega⟩ | exact Ow.mul1 ⟨by omega, by omega⟩ | exact Ow.shl0 (by omega) (by omega) (by omega) | exact ⟨by omega, by omega⟩ | exact ⟨by omega, by omega, by omega⟩ | omega | (simp only [List.length_append, List.length_cons, List.length_nil]; omega) | (subst_vars; omega)), fun l_one_3 h_l_one_3 h0_l_one_3 h1_l_one_3 => ?_⟩
        refine ⟨_, rfl, ?_⟩
        refine ⟨_, _, rfl, rfl, (by first | assumption | exact (by assumption : Ow.Lng _ _).1 | exact Or.inr (Ow.mulx (a := 1280) (b := 1280) (by assumption) (by assumption) (by decide)) | assumption | exact Ow.divw64 (by omega) (by omega) | exact Ow.mul0 ⟨by omega, by omega⟩ | exact Ow.mul1 ⟨by omega, by omega⟩ | exact Ow.shl0 (by omega) (by omega) (by omega) | exact ⟨by omega, by omega⟩ | exact ⟨by omega, by omega, by omega⟩ | omega | (simp only [List.length_append, List.length_cons, List.length_nil]; omega) | (subst_vars; omega)), fun m_7 h_m_7 => ?_⟩
        refine ⟨_, rfl, ?_⟩
        refine ⟨_, _, rfl, rfl, (by first | assumption | exact (by assumption : Ow.Lng _ _).1 | exact Or.inr (Ow.mulx (a := 1280) (b := 1280) (by assumption) (by assumption) (by decide)) | assumption | exact Ow.divw64 (by omega) (by omega) | exact Ow.mul0 ⟨by omega, by omega⟩ | exact Ow.mul1 ⟨by omega, by omega⟩ | exact Ow.shl0 (by omega) (by omega) (by omega) | exact ⟨by omega, by omega⟩ | exact ⟨by omega, by omega, by omega⟩ | omega | (simp only [List.length_append, List.length_cons, List.length_nil]; omega) | (subst_vars; omega)), fun r_2 h_r_2 h0_r_2 h1_r_2 => ?_⟩
        refine ⟨_, _, rfl, rfl, (by first | assumption | exact (by assumption : Ow.Lng _ _).1 | exact Or.inr (Ow.mulx (a := 1280) (b := 1280) (by assumption) (by assumption) (by decide)) | assumption | exact Ow.divw64 (by omega) (by omega) | exact Ow.mul0 ⟨by omega, by omega⟩ | exact Ow.mul1 ⟨by omega, by omega⟩ | exact Ow.shl0 (by omega) (by omega) (by omega) | exact ⟨by omega, by omega⟩ | exact ⟨by omega, by omega, by omega⟩ | omega | (simp only [List.length_append, List.length_cons, List.length_nil]; omega) | (subst_vars; omega)), fun m_8 h_m_8 => ?_⟩
        refine ⟨_, _, rfl, rfl, ?_⟩
        refine ⟨_, _, rfl, rfl, ?_⟩
        refine ⟨_, _, rfl, rfl, (by first | assumption | exact (by assumption : Ow.Lng _ _).1 | exact Or.inr (Ow.mulx (a := 1280) (b := 1280) (by assumption) (by assumption) (by decide)) | assumption | exact Ow.divw64 (by omega) (by omega) | exact Ow.mul0 ⟨by omega, by omega⟩ | exact Ow.mul1 ⟨by omega, by omega⟩ | exact Ow.shl0 (by omega) (by omega) (by omega) | exact ⟨by omega, by omega⟩ | exact ⟨by omega, by omega, by omega⟩ | omega | (simp only [List.length_append, List.length_cons, List.length_nil]; omega) | (subst_vars; omega)), fun l_other_2 h_l_other_2 h0_l_other_2 h1_l_other_2 => ?_⟩
        refine ⟨_, rfl, ?_⟩
        refine ⟨.inl ⟨rfl, _, (SqL.of h25)⟩, ?_⟩
        refine ⟨_, rfl, ?_⟩
        refine ⟨_, _, rfl, rfl, (by first | assumption | exact (by assumption : Ow.Lng _ _).1 | exact Or.inr (Ow.mulx (a := 1280) (b := 1280) (by assumption) (by assumption) (by decide)) | assumption | exact Ow.divw64 (by omega) (by omega) | exact Ow.mul0 ⟨by omega, by omega⟩ | exact Ow.mul1 ⟨by omega, by omega⟩ | exact Ow.shl0 (by omega) (by omega) (by omega) | exact ⟨by omega, by omega⟩ | exact ⟨by omega, by omega, by omega⟩ | omega | (simp only [List.length_append, List.length_cons, List.length_nil]; omega) | (subst_vars; omega)), fun m_9 h_m_9 => ?_⟩
        refine ⟨_, rfl, ?_⟩
        refine ⟨_, _, rfl, rfl, ?_⟩
        refine ⟨_, rfl, ?_⟩
        refine ⟨_, _, rfl, rfl, (by first | assumption | exact (by assumption : Ow.Lng _ _).1 | exact Or.inr (Ow.mulx (a := 1280) (b := 1280) (by assumption) (by assumption) (by decide)) | assumption | exact Ow.divw64 (by omega) (by omega) | exact Ow.mul0 ⟨by omega, by omega⟩ | exact Ow.mul1 ⟨by omega, by omega⟩ | exact Ow.shl0 (by omega) (by omega) (by omega) | exact ⟨by omega, by omega⟩ | exact ⟨by omega, by omega, by omega⟩ | omega | (simp only [List.length_append, List.length_cons, List.length_nil]; omega) | (subst_vars; omega)), fun r_3 h_r_3 h0_r_3 h1_r_3 => ?_⟩
        refine ⟨_, _, _, rfl, rfl, h25, (Ow.szl (by rw [List.length_map]; have l1 := (by assumption : Ow.Drw _ _).len; rw [List.length_take] at l1; omega)), ?_⟩
        exact ⟨p_6, (rs_5 ++ [r_3]), l_one_3, l_other_2, _, rfl, (Ow.same_mut h24 h26), (Ow.ap_ints upd_same), h26, (by first | assumption | exact Ow.Drw.turn (by assumption) (by assumption) (by assumption) (by assumption)), (by first | assumption | exact Ow.Drw.turn (by assumption) (by assumption) (by assumption) (by assumption)), (by first | assumption | exact Ow.Drw.turn (by assumption) (by assumption) (by assumption) (by assumption)), (by first | assumption | exact Ow.Drw.turn (by assumption) (by assumption) (by assumption) (by assumption)), (by first | assumption | exact Ow.Drw.turn (by assumption) (by assumption) (by assumption) (by assumption)), trivial⟩
      · rintro _ Hn_4 ⟨p_7, rs_6, on_3, ot_3, _, rfl, h32, h33, h34, h35, h36, h37, h38, h39, _⟩
        have hd := Ow.Drw.all h35 rfl
        refine ⟨_, rfl, ?_⟩
        exact kont rs_6 (by exact hd) _ _ h32 h34 h33
theorem ok_l_long (T : Tx K mg) : FnOk P w K mg base CX0 1 T.d_l_long.f T.d_l_long.fd ["_law_draws", "_law_at", "_law_many", "_law_width"] (sp_l_long T) := by
  refine T.d_l_long.F.ok sc_l_long (fun vs H Q E h => ?_) (fun cdv A outer s H vs Q E hr h => ?_)
  · obtain ⟨draws, pos, many, width, rs, rfl, _⟩ := h
    rfl
  · obtain ⟨draws, pos, many, width, rs, rfl, c0, c1, c2, c3, c4, c5, c6, kont⟩ := h
    have p32_width := Ow.pow2_le32 (w := width) (by omega)
    have p0_width := Ow.p2 width.toNat
    have hW : 16 ≤ (2 : Int) ^ width.toNat := Ow.pow2_mono (a := 4) (b := width.toNat) (by omega)
    refine ⟨_, (pss_cons (ps_set (i := 4) sc_l_long.nd rfl (Or.inl rfl) (pe_op Ow.op_shl1 pe_int (pv 3)))
        (pss_cons (ps_set (i := 5) sc_l_long.nd rfl (Or.inl rfl) (pe_lst (pa_cons pe_int (pa_cons (pe_op op_sub (pv 4) pe_int) (pa_cons (pe_op Ow.op_divN (pv 4) pe_int) (pa_cons (pe_op op_sub (pe_op Ow.op_divN (pv 4) pe_int) pe_int) (pa_cons pe_int pa_nil)))))))
        (pss_cons (ps_set (i := 6) sc_l_long.nd rfl (Or.inl rfl) (pe_lst pa_nil))
        (pss_cons (ps_for PassesOwn.never rfl (pi_range1 (by rfl) T.z_range (pa_cons (pv 2) pa_nil)) (pg_name (i := 7) sc_l_long.nd rfl (Or.inl rfl)) (pss_cons (ps_set (i := 8) sc_l_long.nd rfl (Or.inl rfl) (pe_op Ow.op_modN (pe_ix ix_list (pv 0) (pe_op op_add (pv 1) (pe_op Ow.op_mulN pe_int (pv 7))) (fun _ _ => rfl)) pe_int))
        (pss_cons (ps_set (i := 9) sc_l_long.nd rfl (Or.inl rfl) (pe_op Ow.op_modN (pe_ix ix_list (pv 0) (pe_op op_add (pe_op op_add (pv 1) (pe_op Ow.op_mulN pe_int (pv 7))) pe_int) (fun _ _ => rfl)) (pv 4)))
        (pss_one (ps_expr (pe_bm PySem.F.plainAttrs_list PySem.F.slot_list_append PySem.F.type_list_append mt_append (pv 6) (pa_cons (Ow.pe_nmi (pe_ifExp (pt_cmpR op_lt (pv 8) pe_int (nomark _)) (pe_ix ix_list (pv 5) (pv 8) (fun _ _ => rfl)) (pv 9))) pa_nil)))))))
        (pss_cons (ps_if (PW.pt (pw_and (pt_cmpR op_gt (pv 2) pe_int (nomark _)) (pw_and1 (pt_cmpR op_eq (pe_ix ix_list (pv 6) (Ow.pe_lit (-1) (pe_un un_neg pe_int)) (fun _ _ => rfl)) pe_int (nomark _))))) (pss_one (ps_asg (Ow.pe_nmi (pe_op op_add pe_int (pe_op Ow.op_modN (pe_ix ix_list (pv 0) (pe_op op_sub (pe_op op_add (pv 1) (pe_op Ow.op_mulN pe_int (pv 2))) pe_int) (fun _ _ => rfl)) (pe_op op_sub (pv 4) pe_int)))) (pg_sub (pv 6) (Ow.pe_lit (-1) (pe_un un_neg pe_int)) set_list))) pss_nil)
        (pss_one (ps_ret (pv 6)))))))), ?_⟩
    refine ⟨_, rfl, ?_⟩
    refine ⟨_, rfl, rfl, (by first | assumption | exact (by assumption : Ow.Lng _ _).1 | exact Or.inr (Ow.mulx (a := 1280) (b := 1280) (by assumption) (by assumption) (by decide)) | assumption | exact Ow.divw64 (by omega) (by omega) | exact Ow.mul0 ⟨by omega, by omega⟩ | exact Ow.mul1 ⟨by omega, by omega⟩ | exact Ow.shl0 (by omega) (by omega) (by omega) | exact ⟨by omega, by omega⟩ | exact ⟨by omega, by omega, by omega⟩ | omega | (simp only [List.length_append, List.length_cons, List.length_nil]; omega) | (subst_vars; omega)), fun l_big h_l_big h0_l_big => ?_⟩
    refine ⟨_, rfl, ?_⟩
    refine ⟨_, _, rfl, rfl, ?_⟩
    refine ⟨_, rfl, ?_⟩
    refine ⟨_, _, rfl, rfl, (by first | assumption | exact (by assumption : Ow.Lng _ _).1 | exact Or.inr (Ow.mulx (a := 1280) (b := 1280) (by assumption) (by assumption) (by decide)) | assumption | exact Ow.divw64 (by omega) (by omega) | exact Ow.mul0 ⟨by omega, by omega⟩ | exact Ow.mul1 ⟨by omega, by omega⟩ | exact Ow.shl0 (by omega) (by omega) (by omega) | exact ⟨by omega, by omega⟩ | exact ⟨by omega, by omega, by omega⟩ | omega | (simp only [List.length_append, List.length_cons, List.length_nil]; omega) | (subst_vars; omega)), fun q h_q => ?_⟩
    refine ⟨_, rfl, ?_⟩
    refine ⟨_, _, rfl, rfl, (by first | assumption | exact (by assumption : Ow.Lng _ _).1 | exact Or.inr (Ow.mulx (a := 1280) (b := 1280) (by assumption) (by assumption) (by decide)) | assumption | exact Ow.divw64 (by omega) (by omega) | exact Ow.mul0 ⟨by omega, by omega⟩ | exact Ow.mul1 ⟨by omega, by omega⟩ | exact Ow.shl0 (by omega) (by omega) (by omega) | exact ⟨by omega, by omega⟩ | exact ⟨by omega, by omega, by omega⟩ | omega | (simp only [List.length_append, List.length_cons, List.length_nil]; omega) | (subst_vars; omega)), fun q_2 h_q_2 => ?_⟩
    refine ⟨_, _, rfl, rfl, ?_⟩
    refine ⟨by show 5 ≤ sizeLine; decide, fun p h_p => ?_⟩
    refine ⟨by show 0 ≤ sizeLine; decide, fun p_2 h_p_2 => ?_⟩
    refine ⟨_, rfl, ?_⟩
    refine ⟨_, rfl, (by first | assumption | exact (by assumption : Ow.Lng _ _).1 | exact Or.inr (Ow.mulx (a := 1280) (b := 1280) (by assumption) (by assumption) (by decide)) | assumption | exact Ow.divw64 (by omega) (by omega) | exact Ow.mul0 ⟨by omega, by omega⟩ | exact Ow.mul1 ⟨by omega, by omega⟩ | exact Ow.shl0 (by omega) (by omega) (by omega) | exact ⟨by omega, by omega⟩ | exact ⟨by omega, by omega, by omega⟩ | omega | (simp only [List.length_append, List.length_cons, List.length_nil]; omega) | (subst_vars; omega)), (by first | assumption | exact (by assumption : Ow.Lng _ _).1 | exact Or.inr (Ow.mulx (a := 1280) (b := 1280) (by assumption) (by assumption) (by decide)) | assumption | exact Ow.divw64 (by omega) (by omega) | exact Ow.mul0 ⟨by omega, by omega⟩ | exact Ow.mul1 ⟨by omega, by omega⟩ | exact Ow.shl0 (by omega) (by omega) (by omega) | exact ⟨by omega, by omega⟩ | exact ⟨by omega, by omega, by omega⟩ | omega | (simp only [List.length_append, List.length_cons, List.length_nil]; omega) | (subst_vars; omega)), ?_⟩
    refine for_range (lo := 0) (fun ixv σ2 H2 => ∃ (p1 : Addr) (zs : List Int) (v_7 : Option V) (v_8 : Option V) (v_9 : Option V), σ2 = [some (.ref draws), some (.int (pos)), some (.int (many)), some (.int (width)), some (.int (l_big)), some (.ref p), some (.ref p1), v_7, v_8, v_9] ∧ Same H H2 ∧ H2 p1 = some (.lst (zs.map V.int)) ∧ H p1 = none ∧ H2 p = some (.lst [.int (0), .int (l_big - 1), .int (q), .int (q_2 - 1), .int (1)]) ∧ p1 ≠ p ∧ (Ow.Wds (2 ^ width.toNat) zs) ∧ (zs.length = ixv) ∧ True) ⟨p_2, [], _, _, _, rfl, ((Ow.same_new h_p).trans (Ow.same_new h_p_2)), upd_same, (Same.free (Ow.same_new h_p) h_p_2), (Ow.at_new h_p_2 upd_same), (Ow.ne_sym (ne_of_none upd_same h_p_2)), (by first | exact Ow.Wds.nil | rfl), (by first | exact Ow.Wds.nil | rfl), trivial⟩ ?_ ?_
    · rintro i _ Hn h1 ⟨p1, zs, _, _, _, rfl, h2, h3, h4, h5, h6, h7, h8, _⟩
      refine Ow.gturn (fun l_k h_l_k => ?_)
      refine ⟨_, rfl, ?_⟩
      refine ⟨_, rfl, ?_⟩
      refine ⟨_, rfl, ?_⟩
      refine ⟨_, _, rfl, rfl, (by first | assumption | exact (by assumption : Ow.Lng _ _).1 | exact Or.inr (Ow.mulx (a := 1280) (b := 1280) (by assumption) (by assumption) (by decide)) | assumption | exact Ow.divw64 (by omega) (by omega) | exact Ow.mul0 ⟨by omega, by omega⟩ | exact Ow.mul1 ⟨by omega, by omega⟩ | exact Ow.shl0 (by omega) (by omega) (by omega) | exact ⟨by omega, by omega⟩ | exact ⟨by omega, by omega, by omega⟩ | omega | (simp only [List.length_append, List.length_cons, List.length_nil]; omega) | (subst_vars; omega)), fun m h_m => ?_⟩
      refine ⟨_, _, rfl, rfl, ?_⟩
      refine Ow.ixn (xs := rs) (i := pos + m) (SqL.of (h2 _ _ c0)) (by first | assumption | exact (by assumption : Ow.Lng _ _).1 | exact Or.inr (Ow.mulx (a := 1280) (b := 1280) (by assumption) (by assumption) (by decide)) | assumption | exact Ow.divw64 (by omega) (by omega) | exact Ow.mul0 ⟨by omega, by omega⟩ | exact Ow.mul1 ⟨by omega, by omega⟩ | exact Ow.shl0 (by omega) (by omega) (by omega) | exact ⟨by omega, by omega⟩ | exact ⟨by omega, by omega, by omega⟩ | omega | (simp only [List.length_append, List.length_cons, List.length_nil]; omega) | (subst_vars; omega)) (by first | assumption | exact (by assumption : Ow.Lng _ _).1 | exact Or.inr (Ow.mulx (a := 1280) (b := 1280) (by assumption) (by assumption) (by decide)) | assumption | exact Ow.divw64 (by omega) (by omega) | exact Ow.mul0 ⟨by omega, by omega⟩ | exact Ow.mul1 ⟨by omega, by omega⟩ | exact Ow.shl0 (by omega) (by omega) (by omega) | exact ⟨by omega, by omega⟩ | exact ⟨by omega, by omega, by omega⟩ | omega | (simp only [List.length_append, List.length_cons, List.length_nil]; omega) | (subst_vars; omega)) (fun it h_it => ?_)
      refine ⟨_, _, rfl, rfl, (by first | assumption | exact (by assumption : Ow.Lng _ _).1 | exact Or.inr (Ow.mulx (a := 1280) (b := 1280) (by assumption) (by assumption) (by decide)) | assumption | exact Ow.divw64 (by omega) (by omega) | exact Ow.mul0 ⟨by omega, by omega⟩ | exact Ow.mul1 ⟨by omega, by omega⟩ | exact Ow.shl0 (by omega) (by omega) (by omega) | exact ⟨by omega, by omega⟩ | exact ⟨by omega, by omega, by omega⟩ | omega | (simp only [List.length_append, List.length_cons, List.length_nil]; omega) | (subst_vars; omega)), fun l_kind h_l_kind h0_l_kind h1_l_kind => ?_⟩
      refine ⟨_, rfl, ?_⟩
      refine ⟨_, rfl, ?_⟩
      refine ⟨_, rfl, ?_⟩
      refine ⟨_, _, rfl, rfl, (by first | assumption | exact (by assumption : Ow.Lng _ _).1 | exact Or.inr (Ow.mulx (a := 1280) (b := 1280) (by assumption) (by assumption) (by decide)) | assumption | exact Ow.divw64 (by omega) (by omega) | exact Ow.mul0 ⟨by omega, by omega⟩ | exact Ow.mul1 ⟨by omega, by omega⟩ | exact Ow.shl0 (by omega) (by omega) (by omega) | exact ⟨by omega, by omega⟩ | exact ⟨by omega, by omega, by omega⟩ | omega | (simp only [List.length_append, List.length_cons, List.length_nil]; omega) | (subst_vars; omega)), fun m_2 h_m_2 => ?_⟩
      refine ⟨_, _, rfl, rfl, ?_⟩
      refine ⟨_, _, rfl, rfl, ?_⟩
      refine Ow.ixn (xs := rs) (i := (pos + m_2) + 1) (SqL.of (h2 _ _ c0)) (by first | assumption | exact (by assumption : Ow.Lng _ _).1 | exact Or.inr (Ow.mulx (a := 1280) (b := 1280) (by assumption) (by assumption) (by decide)) | assumption | exact Ow.divw64 (by omega) (by omega) | exact Ow.mul0 ⟨by omega, by omega⟩ | exact Ow.mul1 ⟨by omega, by omega⟩ | exact Ow.shl0 (by omega) (by omega) (by omega) | exact ⟨by omega, by omega⟩ | exact ⟨by omega, by omega, by omega⟩ | omega | (simp only [List.length_append, List.length_cons, List.length_nil]; omega) | (subst_vars; omega)) (by first | assumption | exact (by assumption : Ow.Lng _ _).1 | exact Or.inr (Ow.mulx (a := 1280) (b := 1280) (by assumption) (by assumption) (by decide)) | assumption | exact Ow.divw64 (by omega) (by omega) | exact Ow.mul0 ⟨by omega, by omega⟩ | exact Ow.mul1 ⟨by omega, by omega⟩ | exact Ow.shl0 (by omega) (by omega) (by omega) | exact ⟨by omega, by omega⟩ | exact ⟨by omega, by omega, by omega⟩ | omega | (simp only [List.length_append, List.length_cons, List.length_nil]; omega) | (subst_vars; omega)) (fun it_2 h_it_2 => ?_)
      refine ⟨_, rfl, ?_⟩
      refine ⟨_, _, rfl, rfl, (by first | assumption | exact (by assumption : Ow.Lng _ _).1 | exact Or.inr (Ow.mulx (a := 1280) (b := 1280) (by assumption) (by assumption) (by decide)) | assumption | exact Ow.divw64 (by omega) (by omega) | exact Ow.mul0 ⟨by omega, by omega⟩ | exact Ow.mul1 ⟨by omega, by omega⟩ | exact Ow.shl0 (by omega) (by omega) (by omega) | exact ⟨by omega, by omega⟩ | exact ⟨by omega, by omega, by omega⟩ | omega | (simp only [List.length_append, List.length_cons, List.length_nil]; omega) | (subst_vars; omega)), fun l_raw h_l_raw h0_l_raw h1_l_raw => ?_⟩
      refine ⟨_, rfl, ?_⟩
      refine ⟨.inl ⟨rfl, _, (SqL.of h3)⟩, ?_⟩
      refine ⟨_, rfl, ?_⟩
      refine ⟨_, _, rfl, rfl, ?_⟩
      refine ⟨_, rfl, ?_⟩
      refine Ow.ifd (fun h9 => ?_) (fun h9 => ?_)
      · refine ⟨_, rfl, ?_⟩
        refine ⟨_, rfl, ?_⟩
        refine Ow.ixi5 (SqL.of h5) (by first | assumption | exact (by assumption : Ow.Lng _ _).1 | exact Or.inr (Ow.mulx (a := 1280) (b := 1280) (by assumption) (by assumption) (by decide)) | assumption | exact Ow.divw64 (by omega) (by omega) | exact Ow.mul0 ⟨by omega, by omega⟩ | exact Ow.mul1 ⟨by omega, by omega⟩ | exact Ow.shl0 (by omega) (by omega) (by omega) | exact ⟨by omega, by omega⟩ | exact ⟨by omega, by omega, by omega⟩ | omega | (simp only [List.length_append, List.length_cons, List.length_nil]; omega) | (subst_vars; omega)) (fun it_3 h_it_3 => ?_)
        refine ⟨_, rfl, fun ap h_ap => ?_⟩
        refine ⟨_, _, _, rfl, rfl, h3, (Ow.szl (by rw [List.length_map]; omega)), ?_⟩
        exact ⟨p1, (zs ++ [ap]), _, _, _, rfl, (Ow.same_mut h2 h4), (Ow.ap_ints upd_same), h4, (Ow.at_mut (Ow.ne_sym h6) h5), h6, (by first | exact Ow.Wds.snoc (by assumption) (by omega) (by omega) | (rw [List.length_append, List.length_singleton]; omega)), (by first | exact Ow.Wds.snoc (by assumption) (by omega) (by omega) | (rw [List.length_append, List.length_singleton]; omega)), trivial⟩
      · refine ⟨_, rfl, ?_⟩
        refine ⟨_, rfl, fun ap_2 h_ap_2 => ?_⟩
        refine ⟨_, _, _, rfl, rfl, h3, (Ow.szl (by rw [List.length_map]; omega)), ?_⟩
        exact ⟨p1, (zs ++ [ap_2]), _, _, _, rfl, (Ow.same_mut h2 h4), (Ow.ap_ints upd_same), h4, (Ow.at_mut (Ow.ne_sym h6) h5), h6, (by first | exact Ow.Wds.snoc (by assumption) (by omega) (by omega) | (rw [List.length_append, List.length_singleton]; omega)), (by first | exact Ow.Wds.snoc (by assumption) (by omega) (by omega) | (rw [List.length_append, List.length_singleton]; omega)), trivial⟩
    · rintro _ Hn_2 ⟨p1_2, zs_2, _, _, _, rfl, h10, h11, h12, h13, h14, h15, h16, _⟩
      refine ⟨_, rfl, ?_⟩
      refine ⟨_, _, rfl, rfl, ?_⟩
      refine ⟨_, rfl, ?_⟩
      refine Ow.ifd (fun h17 => ?_) (fun h17 => ?_)
      · refine ⟨_, rfl, ?_⟩
        refine ⟨_, rfl, ?_⟩
        refine ⟨by decide, ?_⟩
        refine Ow.ixlast (xs := zs_2) (SqL.of h11) (by omega) (fun it_4 h_it_4 => ?_)
        refine ⟨rfl, ?_⟩
        refine ⟨_, rfl, ?_⟩
        refine Ow.ifeqi (fun h18 => ?_) (fun h18 => ?_)
        · refine ⟨_, rfl, ?_⟩
          refine ⟨_, rfl, ?_⟩
          refine ⟨_, rfl, ?_⟩
          refine ⟨_, _, rfl, rfl, (by first | assumption | exact (by assumption : Ow.Lng _ _).1 | exact Or.inr (Ow.mulx (a := 1280) (b := 1280) (by assumption) (by assumption) (by decide)) | assumption | exact Ow.divw64 (by omega) (by omega) | exact Ow.mul0 ⟨by omega, by omega⟩ | exact Ow.mul1 ⟨by omega, by omega⟩ | exact Ow.shl0 (by omega) (by omega) (by omega) | exact ⟨by omega, by omega⟩ | exact ⟨by omega, by omega, by omega⟩ | omega | (simp only [List.length_append, List.length_cons, List.length_nil]; omega) | (subst_vars; omega)), fun m_3 h_m_3 => ?_⟩
          refine ⟨_, _, rfl, rfl, ?_⟩
          refine ⟨_, _, rfl, rfl, ?_⟩
          refine Ow.ixn (xs := rs) (i := (pos + m_3) - 1) (SqL.of (h10 _ _ c0)) (by first | assumption | exact (by assumption : Ow.Lng _ _).1 | exact Or.inr (Ow.mulx (a := 1280) (b := 1280) (by assumption) (by assumption) (by decide)) | assumption | exact Ow.divw64 (by omega) (by omega) | exact Ow.mul0 ⟨by omega, by omega⟩ | exact Ow.mul1 ⟨by omega, by omega⟩ | exact Ow.shl0 (by omega) (by omega) (by omega) | exact ⟨by omega, by omega⟩ | exact ⟨by omega, by omega, by omega⟩ | omega | (simp only [List.length_append, List.length_cons, List.length_nil]; omega) | (subst_vars; omega)) (by first | assumption | exact (by assumption : Ow.Lng _ _).1 | exact Or.inr (Ow.mulx (a := 1280) (b := 1280) (by assumption) (by assumption) (by decide)) | assumption | exact Ow.divw64 (by omega) (by omega) | exact Ow.mul0 ⟨by omega, by omega⟩ | exact Ow.mul1 ⟨by omega, by omega⟩ | exact Ow.shl0 (by omega) (by omega) (by omega) | exact ⟨by omega, by omega⟩ | exact ⟨by omega, by omega, by omega⟩ | omega | (simp only [List.length_append, List.length_cons, List.length_nil]; omega) | (subst_vars; omega)) (fun it_5 h_it_5 => ?_)
          refine ⟨_, rfl, ?_⟩
          refine ⟨_, _, rfl, rfl, ?_⟩
          refine ⟨_, _, rfl, rfl, (by first | assumption | exact (by assumption : Ow.Lng _ _).1 | exact Or.inr (Ow.mulx (a := 1280) (b := 1280) (by assumption) (by assumption) (by decide)) | assumption | exact Ow.divw64 (by omega) (by omega) | exact Ow.mul0 ⟨by omega, by omega⟩ | exact Ow.mul1 ⟨by omega, by omega⟩ | exact Ow.shl0 (by omega) (by omega) (by omega) | exact ⟨by omega, by omega⟩ | exact ⟨by omega, by omega, by omega⟩ | omega | (simp only [List.length_append, List.length_cons, List.length_nil]; omega) | (subst_vars; omega)), fun r h_r h0_r h1_r => ?_⟩
          refine ⟨_, _, rfl, rfl, ?_⟩
          refine ⟨_, rfl, fun t h_t => ?_⟩
          refine ⟨_, rfl, ?_⟩
          refine ⟨_, rfl, ?_⟩
          refine ⟨by decide, ?_⟩
          refine ⟨_, _, _, _, rfl, rfl, h11, Ow.ixN_last (by rw [List.length_map]; omega), ?_⟩
          refine ⟨_, rfl, ?_⟩
          exact kont (zs_2.set (zs_2.length - 1) t) (by first | exact Ow.set_lng (by assumption) (by omega) (by omega) | (rw [List.length_set]; omega) | exact Ow.Lng.last (by assumption) (by assumption) (by assumption) | exact Ow.Lng.zero (by omega) | omega) (by first | exact Ow.set_lng (by assumption) (by omega) (by omega) | (rw [List.length_set]; omega) | exact Ow.Lng.last (by assumption) (by assumption) (by assumption) | exact Ow.Lng.zero (by omega) | omega) _ _ (Ow.same_mut h10 h12) h12 (Ow.set_last upd_same)
        · refine ⟨_, rfl, ?_⟩
          exact kont zs_2 (by first | exact Ow.set_lng (by assumption) (by omega) (by omega) | (rw [List.length_set]; omega) | exact Ow.Lng.last (by assumption) (by assumption) (by assumption) | exact Ow.Lng.zero (by omega) | omega) (by first | exact Ow.set_lng (by assumption) (by omega) (by omega) | (rw [List.length_set]; omega) | exact Ow.Lng.last (by assumption) (by assumption) (by assumption) | exact Ow.Lng.zero (by omega) | omega) _ _ h10 h12 h11
      · refine iteF ?_
        refine ⟨_, rfl, ?_⟩
        exact kont zs_2 (by first | exact Ow.set_lng (by assumption) (by omega) (by omega) | (rw [List.length_set]; omega) | exact Ow.Lng.last (by assumption) (by assumption) (by assumption) | exact Ow.Lng.zero (by omega) | omega) (by first | exact Ow.set_lng (by assumption) (by omega) (by omega) | (rw [List.length_set]; omega) | exact Ow.Lng.last (by assumption) (by assumption) (by assumption) | exact Ow.Lng.zero (by omega) | omega) _ _ h10 h12 h11
theorem ok_l_row (T : Tx K mg) : FnOk P w K mg base CX0 2 T.d_l_row.f T.d_l_row.fd ["_law_cell"] (sp_l_row T) := by
  refine T.d_l_row.F.ok sc_l_row (fun vs H Q E h => ?_) (fun cdv A outer s H vs Q E hr h => ?_)
  · obtain ⟨cell, rfl, _⟩ := h
    rfl
  · obtain ⟨cell, rfl, kont⟩ := h
    refine ⟨_, (pss_cons (ps_set (i := 1) sc_l_row.nd rfl (Or.inl rfl) (pe_call (Ow.ok_l_drawn T) (hr.mono (by decide : 1 ≤ 1)) (by rfl) T.d_l_drawn.m T.d_l_drawn.F.kp T.d_l_drawn.b .nil pass0 (pa_cons (pv 0) (pa_cons (pe_op op_cat (pe_op op_cat (pe_lst (pa_cons pe_int (pa_cons pe_int (pa_cons pe_int (pa_cons pe_int pa_nil))))) (pe_op op_rep (pe_lst (pa_cons pe_int (pa_cons (Ow.pe_lit (4294967296) (pe_op op_shl pe_int pe_int)) pa_nil))) pe_int)) (pe_lst (pa_cons pe_int pa_nil))) pa_nil))))
        (pss_cons (ps_set (i := 2) sc_l_row.nd rfl (Or.inl rfl) (Ow.pe_nmi (pe_op op_add pe_int (pe_ix ix_list (pv 1) pe_int (fun _ _ => rfl)))))
        (pss_cons (ps_set (i := 3) sc_l_row.nd rfl (Or.inr rfl) (pe_call (Ow.ok_l_long T) (hr.mono (by decide : 1 ≤ 1)) (by rfl) T.d_l_long.m T.d_l_long.F.kp T.d_l_long.b .nil pass0 (pa_cons (pv 1) (pa_cons pe_int (pa_cons (pe_ix ix_list (pv 1) pe_int (fun _ _ => rfl)) (pa_cons (pv 2) pa_nil))))))
        (pss_cons (ps_if (PW.pt (pw_and (pt_cmpR op_eq (pe_ix ix_list (pv 1) pe_int (fun _ _ => rfl)) pe_int (nomark _)) (pw_and1 (pt_cmpR (Ow.op_neI hr.units) (pv 3) (pe_lst pa_nil) (nomark _))))) (pss_cons (ps_set (i := 3) sc_l_row.nd rfl (Or.inr rfl) (pe_lc (g := gName 4) (tt := tYes) rfl sc_l_row.nd (pi_range1 (by rfl) T.z_range (pa_cons (pe_op op_add pe_int (pe_ix (Ow.ix_listK (K := K) rfl) (pv 1) pe_int (fun _ _ => rfl))) pa_nil)) (own := [("_law_k", 4)]) (blkOk_by (N := ["_law_cell", "_law_draws", "_law_width", "_law_words", "_law_k"]) (sc := defScope s_l_row) (by decide +kernel)) (fun _ _ _ _ _ => (pg_name (i := 4) sc_l_row.nd rfl (Or.inl rfl))) (fun _ _ _ _ _ => pts_nil) (fun _ _ _ _ _ => (pe_ix (Ow.ix_listK (K := K) rfl) (pv 3) (pe_op Ow.op_modN (pv 4) (Ow.pe_nmi (pe_callB (Ow.call_lenK (K := K) rfl) (by rfl) T.z_len PySem.boot_len (pa_cons (pv 3) pa_nil)))) (fun _ _ => rfl)))))
        (pss_one (ps_asg (Ow.pe_nmi (pe_callB (call_max2 rfl) (by rfl) T.z_max PyProof.Rows.boot_max (pa_cons pe_int (pa_cons (pe_ix ix_list (pv 3) (Ow.pe_lit (-1) (pe_un un_neg pe_int)) (fun _ _ => rfl)) pa_nil)))) (pg_sub (pv 3) (Ow.pe_lit (-1) (pe_un un_neg pe_int)) set_list)))) pss_nil)
        (pss_one (ps_ret (pe_tup (pa_cons (pv 2) (pa_cons (pv 3) (pa_cons (pe_ix ix_list (pv 1) pe_int (fun _ _ => rfl)) pa_nil)))))))))), ?_⟩
    refine ⟨_, rfl, ?_⟩
    refine ⟨by show 4 ≤ sizeLine; decide, fun p h_p => ?_⟩
    refine ⟨_, _, rfl, rfl, ⟨by decide, by decide, by decide⟩, ?_⟩
    refine ⟨by decide, ?_⟩
    refine ⟨by show 2 ≤ sizeLine; decide, fun p_2 h_p_2 => ?_⟩
    refine ⟨_, _, _, rfl, rfl, upd_same, (by first | assumption | exact (by assumption : Ow.Lng _ _).1 | exact Or.inr (Ow.mulx (a := 1280) (b := 1280) (by assumption) (by assumption) (by decide)) | assumption | exact Ow.divw64 (by omega) (by omega) | exact Ow.mul0 ⟨by omega, by omega⟩ | exact Ow.mul1 ⟨by omega, by omega⟩ | exact Ow.shl0 (by omega) (by omega) (by omega) | exact ⟨by omega, by omega⟩ | exact ⟨by omega, by omega, by omega⟩ | omega | (simp only [List.length_append, List.length_cons, List.length_nil]; omega) | (subst_vars; omega)), (by first | assumption | exact (by assumption : Ow.Lng _ _).1 | exact Or.inr (Ow.mulx (a := 1280) (b := 1280) (by assumption) (by assumption) (by decide)) | assumption | exact Ow.divw64 (by omega) (by omega) | exact Ow.mul0 ⟨by omega, by omega⟩ | exact Ow.mul1 ⟨by omega, by omega⟩ | exact Ow.shl0 (by omega) (by omega) (by omega) | exact ⟨by omega, by omega⟩ | exact ⟨by omega, by omega, by omega⟩ | omega | (simp only [List.length_append, List.length_cons, List.length_nil]; omega) | (subst_vars; omega)), (by decide), fun p_3 h_p_3 => ?_⟩
    refine ⟨_, _, _, _, rfl, rfl, (Ow.at_new h_p_3 (Ow.at_new h_p_2 upd_same)), upd_same, (by decide), fun p_4 h_p_4 => ?_⟩
    refine ⟨by show 1 ≤ sizeLine; decide, fun p_5 h_p_5 => ?_⟩
    refine ⟨_, _, _, _, rfl, rfl, (Ow.at_new h_p_5 upd_same), upd_same, (by decide), fun p_6 h_p_6 => ?_⟩
    refine ⟨_, _, ([29, 9, 7, 33, 9, 4294967296, 9, 4294967296, 9, 4294967296, 9, 4294967296, 9, 4294967296, 9, 4294967296, 64]), rfl, upd_same, (by first | (intro m hm; simp only [List.mem_cons, List.not_mem_nil, or_false] at hm; omega) | (simp only [List.length_cons, List.length_nil]; omega)), (by first | (intro m hm; simp only [List.mem_cons, List.not_mem_nil, or_false] at hm; omega) | (simp only [List.length_cons, List.length_nil]; omega)), fun rs h1 p_7 Hn h2 h3 h4 => ?_⟩
    refine ⟨_, rfl, ?_⟩
    refine Ow.cc ?_
    refine Ow.ixd (j := 0) (m := 29) (SqL.of h4) h1 rfl (fun it h_it b_it => ?_)
    refine ⟨_, _, rfl, rfl, ?_⟩
    refine ⟨_, rfl, fun l_width h_l_width => ?_⟩
    have z_l_width : Ow.Sz 6 l_width := by rw [h_l_width]; exact (Ow.Sz.add (Ow.Sz.mono (Ow.Sz.lit (n := 3) (i := 4) (by decide)) (by decide : 3 ≤ 5)) (Ow.Sz.rng (n := 5) b_it.1 b_it.2 (by decide)))
    refine ⟨_, rfl, ?_⟩
    refine ⟨_, rfl, ?_⟩
    refine Ow.cc ?_
    refine Ow.ixd (j := 2) (m := 7) (SqL.of h4) h1 rfl (fun it_2 h_it_2 b_it_2 => ?_)
    refine ⟨_, rfl, ?_⟩
    refine ⟨_, _, _, _, _, rfl, h4, (by first | assumption | exact (by assumption : Ow.Lng _ _).1 | exact Or.inr (Ow.mulx (a := 1280) (b := 1280) (by assumption) (by assumption) (by decide)) | assumption | exact Ow.divw64 (by omega) (by omega) | exact Ow.mul0 ⟨by omega, by omega⟩ | exact Ow.mul1 ⟨by omega, by omega⟩ | exact Ow.shl0 (by omega) (by omega) (by omega) | exact ⟨by omega, by omega⟩ | exact ⟨by omega, by omega, by omega⟩ | omega | (simp only [List.length_append, List.length_cons, List.length_nil]; omega) | (subst_vars; omega) | (have hl := (by assumption : Ow.Drw rs _).len; simp only [List.length_cons, List.length_nil] at hl; omega)), (by first | assumption | exact (by assumption : Ow.Lng _ _).1 | exact Or.inr (Ow.mulx (a := 1280) (b := 1280) (by assumption) (by assumption) (by decide)) | assumption | exact Ow.divw64 (by omega) (by omega) | exact Ow.mul0 ⟨by omega, by omega⟩ | exact Ow.mul1 ⟨by omega, by omega⟩ | exact Ow.shl0 (by omega) (by omega) (by omega) | exact ⟨by omega, by omega⟩ | exact ⟨by omega, by omega, by omega⟩ | omega | (simp only [List.length_append, List.length_cons, List.length_nil]; omega) | (subst_vars; omega) | (have hl := (by assumption : Ow.Drw rs _).len; simp only [List.length_cons, List.length_nil] at hl; omega)), (by first | assumption | exact (by assumption : Ow.Lng _ _).1 | exact Or.inr (Ow.mulx (a := 1280) (b := 1280) (by assumption) (by assumption) (by decide)) | assumption | exact Ow.divw64 (by omega) (by omega) | exact Ow.mul0 ⟨by omega, by omega⟩ | exact Ow.mul1 ⟨by omega, by omega⟩ | exact Ow.shl0 (by omega) (by omega) (by omega) | exact ⟨by omega, by omega⟩ | exact ⟨by omega, by omega, by omega⟩ | omega | (simp only [List.length_append, List.length_cons, List.length_nil]; omega) | (subst_vars; omega) | (have hl := (by assumption : Ow.Drw rs _).len; simp only [List.length_cons, List.length_nil] at hl; omega)), (by first | assumption | exact (by assumption : Ow.Lng _ _).1 | exact Or.inr (Ow.mulx (a := 1280) (b := 1280) (by assumption) (by assumption) (by decide)) | assumption | exact Ow.divw64 (by omega) (by omega) | exact Ow.mul0 ⟨by omega, by omega⟩ | exact Ow.mul1 ⟨by omega, by omega⟩ | exact Ow.shl0 (by omega) (by omega) (by omega) | exact ⟨by omega, by omega⟩ | exact ⟨by omega, by omega, by omega⟩ | omega | (simp only [List.length_append, List.length_cons, List.length_nil]; omega) | (subst_vars; omega) | (have hl := (by assumption : Ow.Drw rs _).len; simp only [List.length_cons, List.length_nil] at hl; omega)), (by first | assumption | exact (by assumption : Ow.Lng _ _).1 | exact Or.inr (Ow.mulx (a := 1280) (b := 1280) (by assumption) (by assumption) (by decide)) | assumption | exact Ow.divw64 (by omega) (by omega) | exact Ow.mul0 ⟨by omega, by omega⟩ | exact Ow.mul1 ⟨by omega, by omega⟩ | exact Ow.shl0 (by omega) (by omega) (by omega) | exact ⟨by omega, by omega⟩ | exact ⟨by omega, by omega, by omega⟩ | omega | (simp only [List.length_append, List.length_cons, List.length_nil]; omega) | (subst_vars; omega) | (have hl := (by assumption : Ow.Drw rs _).len; simp only [List.length_cons, List.length_nil] at hl; omega)), (by first | assumption | exact (by assumption : Ow.Lng _ _).1 | exact Or.inr (Ow.mulx (a := 1280) (b := 1280) (by assumption) (by assumption) (by decide)) | assumption | exact Ow.divw64 (by omega) (by omega) | exact Ow.mul0 ⟨by omega, by omega⟩ | exact Ow.mul1 ⟨by omega, by omega⟩ | exact Ow.shl0 (by omega) (by omega) (by omega) | exact ⟨by omega, by omega⟩ | exact ⟨by omega, by omega, by omega⟩ | omega | (simp only [List.length_append, List.length_cons, List.length_nil]; omega) | (subst_vars; omega) | (have hl := (by assumption : Ow.Drw rs _).len; simp only [List.length_cons, List.length_nil] at hl; omega)), fun ys h5 h6 p_8 Hn_2 h7 h8 h9 => ?_⟩
    have e1 := Ow.pow2_pred (w := l_width) (by omega)
    have e2 := Ow.p2 (l_width - 1).toNat
    have e3 := Ow.pow2_mono (a := 4) (b := (l_width).toNat) (by omega)
    refine ⟨_, rfl, ?_⟩
    refine Ow.cc ?_
    refine Ow.ixd (j := 1) (m := 9) (SqL.of (h7 _ _ h4)) h1 rfl (fun it_3 h_it_3 b_it_3 => ?_)
    refine ⟨rfl, ?_⟩
    refine ⟨_, rfl, ?_⟩
    refine Ow.ifeqi (fun h10 => ?_) (fun h10 => ?_)
    · refine ⟨_, rfl, ?_⟩
      refine ⟨by show 0 ≤ sizeLine; decide, fun p_9 h_p_9 => ?_⟩
      refine ⟨_, _, ys, [], rfl, rfl, (SqL.of (Ow.at_new h_p_9 h9)), (SqL.of upd_same), ?_⟩
      refine ⟨_, rfl, ?_⟩
      refine Ow.ifnd (fun h11 => ?_) (fun h11 => ?_)
      · have hne : 0 < ys.length := List.length_pos_iff.mpr (by assumption)
        refine ⟨_, rfl, ?_⟩
        refine Ow.cc ?_
        refine Ow.ixd (j := 3) (m := 33) (SqL.of (Ow.at_new h_p_9 (h7 _ _ h4))) h1 rfl (fun it_4 h_it_4 b_it_4 => ?_)
        refine ⟨_, _, rfl, rfl, ?_⟩
        refine ⟨_, rfl, (by first | assumption | exact (by assumption : Ow.Lng _ _).1 | exact Or.inr (Ow.mulx (a := 1280) (b := 1280) (by assumption) (by assumption) (by decide)) | assumption | exact Ow.divw64 (by omega) (by omega) | exact Ow.mul0 ⟨by omega, by omega⟩ | exact Ow.mul1 ⟨by omega, by omega⟩ | exact Ow.shl0 (by omega) (by omega) (by omega) | exact ⟨by omega, by omega⟩ | exact ⟨by omega, by omega, by omega⟩ | omega | (simp only [List.length_append, List.length_cons, List.length_nil]; omega) | (subst_vars; omega)), (by first | assumption | exact (by assumption : Ow.Lng _ _).1 | exact Or.inr (Ow.mulx (a := 1280) (b := 1280) (by assumption) (by assumption) (by decide)) | assumption | exact Ow.divw64 (by omega) (by omega) | exact Ow.mul0 ⟨by omega, by omega⟩ | exact Ow.mul1 ⟨by omega, by omega⟩ | exact Ow.shl0 (by omega) (by omega) (by omega) | exact ⟨by omega, by omega⟩ | exact ⟨by omega, by omega, by omega⟩ | omega | (simp only [List.length_append, List.length_cons, List.length_nil]; omega) | (subst_vars; omega)), ?_⟩
        intro D h_D
        refine lc_range (lo := 0) (fun ixv H2 => ∃ xs : List Int, Same H H2 ∧ H2 D = some (.lst (xs.map V.int)) ∧ H2 p_7 = some (.lst (rs.map V.int)) ∧ H2 p_8 = some (.lst (ys.map V.int)) ∧ (xs.length = ixv) ∧ (Ow.Wds (2 ^ l_width.toNat) xs) ∧ True) ⟨[], ((((((((((Ow.same_new h_p).trans (Ow.same_new h_p_2)).trans (Ow.same_new h_p_3)).trans (Ow.same_new h_p_4)).trans (Ow.same_new h_p_5)).trans (Ow.same_new h_p_6)).trans h2).trans h7).trans (Ow.same_new h_p_9)).trans (Ow.same_new h_D)), (by first | exact upd_same | rfl), (Ow.at_new h_D (Ow.at_new h_p_9 (h7 _ _ h4))), (Ow.at_new h_D (Ow.at_new h_p_9 h9)), rfl, (by exact Ow.Wds.nil), trivial⟩ ?_ ?_
        · rintro i Hn_3 h12 ⟨xs, h13, h14, h15, h16, h17, h18, _⟩
          refine Ow.gturn (fun l_k h_l_k => ?_)
          refine ⟨rfl, ?_⟩
          refine Ow.tyes ?_
          refine iteT ?_
          refine ⟨_, rfl, ?_⟩
          refine ⟨_, rfl, ?_⟩
          refine ⟨_, rfl, ?_⟩
          refine ⟨_, _, rfl, .inl (SqL.of h16), ?_⟩
          refine ⟨_, rfl, fun len h_len => ?_⟩
          rw [List.length_map] at h_len
          refine ⟨_, _, rfl, rfl, (by first | assumption | exact (by assumption : Ow.Lng _ _).1 | exact Or.inr (Ow.mulx (a := 1280) (b := 1280) (by assumption) (by assumption) (by decide)) | assumption | exact Ow.divw64 (by omega) (by omega) | exact Ow.mul0 ⟨by omega, by omega⟩ | exact Ow.mul1 ⟨by omega, by omega⟩ | exact Ow.shl0 (by omega) (by omega) (by omega) | exact ⟨by omega, by omega⟩ | exact ⟨by omega, by omega, by omega⟩ | omega | (simp only [List.length_append, List.length_cons, List.length_nil]; omega) | (subst_vars; omega)), fun r h_r h0_r h1_r => ?_⟩
          refine Ow.ixn (xs := ys) (i := r) (SqL.of h16) (by first | assumption | exact (by assumption : Ow.Lng _ _).1 | exact Or.inr (Ow.mulx (a := 1280) (b := 1280) (by assumption) (by assumption) (by decide)) | assumption | exact Ow.divw64 (by omega) (by omega) | exact Ow.mul0 ⟨by omega, by omega⟩ | exact Ow.mul1 ⟨by omega, by omega⟩ | exact Ow.shl0 (by omega) (by omega) (by omega) | exact ⟨by omega, by omega⟩ | exact ⟨by omega, by omega, by omega⟩ | omega | (simp only [List.length_append, List.length_cons, List.length_nil]; omega) | (subst_vars; omega)) (by first | assumption | exact (by assumption : Ow.Lng _ _).1 | exact Or.inr (Ow.mulx (a := 1280) (b := 1280) (by assumption) (by assumption) (by decide)) | assumption | exact Ow.divw64 (by omega) (by omega) | exact Ow.mul0 ⟨by omega, by omega⟩ | exact Ow.mul1 ⟨by omega, by omega⟩ | exact Ow.shl0 (by omega) (by omega) (by omega) | exact ⟨by omega, by omega⟩ | exact ⟨by omega, by omega, by omega⟩ | omega | (simp only [List.length_append, List.length_cons, List.length_nil]; omega) | (subst_vars; omega)) (fun it_5 h_it_5 => ?_)
          refine ⟨_, h14, (Ow.szl (by rw [List.length_map]; omega)), ?_⟩
          exact ⟨(xs ++ [it_5]), (Ow.same_mut h13 (Same.free (((((((((Ow.same_new h_p).trans (Ow.same_new h_p_2)).trans (Ow.same_new h_p_3)).trans (Ow.same_new h_p_4)).trans (Ow.same_new h_p_5)).trans (Ow.same_new h_p_6)).trans h2).trans h7).trans (Ow.same_new h_p_9)) h_D)), (Ow.ap_ints upd_same), (Ow.at_mut (Ow.ne_sym (Ow.ne_sym (ne_of_none (Ow.at_new h_p_9 (h7 _ _ h4)) h_D))) h15), (Ow.at_mut (Ow.ne_sym (Ow.ne_sym (ne_of_none (Ow.at_new h_p_9 h9) h_D))) h16), (by rw [List.length_append, List.length_singleton]; omega), (by exact Ow.Wds.snoc (by assumption) ((by assumption : Ow.Lng _ ys).1.get (by assumption)).1 ((by assumption : Ow.Lng _ ys).1.get (by assumption)).2), trivial⟩
        · rintro Hn_4 ⟨xs_2, h19, h20, h21, h22, h23, h24, _⟩
          refine ⟨_, rfl, ?_⟩
          refine ⟨_, rfl, ?_⟩
          refine ⟨by decide, ?_⟩
          refine Ow.ixlast (xs := xs_2) (SqL.of h20) (by first | assumption | exact (by assumption : Ow.Lng _ _).1 | exact Or.inr (Ow.mulx (a := 1280) (b := 1280) (by assumption) (by assumption) (by decide)) | assumption | exact Ow.divw64 (by omega) (by omega) | exact Ow.mul0 ⟨by omega, by omega⟩ | exact Ow.mul1 ⟨by omega, by omega⟩ | exact Ow.shl0 (by omega) (by omega) (by omega) | exact ⟨by omega, by omega⟩ | exact ⟨by omega, by omega, by omega⟩ | omega | (simp only [List.length_append, List.length_cons, List.length_nil]; omega) | (subst_vars; omega)) (fun it_6 h_it_6 => ?_)
          refine ⟨_, _, rfl, ?_⟩
          refine ⟨_, rfl, fun m h_m => ?_⟩
          have hm_m := Ow.max_ite h_m
          refine ⟨_, rfl, ?_⟩
          refine ⟨_, rfl, ?_⟩
          refine ⟨by decide, ?_⟩
          refine ⟨_, _, _, _, rfl, rfl, h20, Ow.ixN_last (by rw [List.length_map]; first | assumption | exact (by assumption : Ow.Lng _ _).1 | exact Or.inr (Ow.mulx (a := 1280) (b := 1280) (by assumption) (by assumption) (by decide)) | assumption | exact Ow.divw64 (by omega) (by omega) | exact Ow.mul0 ⟨by omega, by omega⟩ | exact Ow.mul1 ⟨by omega, by omega⟩ | exact Ow.shl0 (by omega) (by omega) (by omega) | exact ⟨by omega, by omega⟩ | exact ⟨by omega, by omega, by omega⟩ | omega | (simp only [List.length_append, List.length_cons, List.length_nil]; omega) | (subst_vars; omega)), ?_⟩
          refine ⟨_, rfl, ?_⟩
          refine ⟨_, rfl, ?_⟩
          refine ⟨_, rfl, ?_⟩
          refine Ow.cc ?_
          refine Ow.ixd (j := 16) (m := 64) (SqL.of (Ow.at_mut (Ow.ne_sym (Ow.ne_sym (ne_of_none (Ow.at_new h_p_9 (h7 _ _ h4)) h_D))) h21)) h1 rfl (fun it_7 h_it_7 b_it_7 => ?_)
          refine ⟨by show 3 ≤ sizeLine; decide, fun p_10 h_p_10 => ?_⟩
          exact kont l_width it_7 (xs_2.set (xs_2.length - 1) m) (by first | assumption | omega | exact Ow.set_lng (by assumption) (by omega) (by have z := (by assumption : Ow.Wds (2 ^ l_width.toNat) xs_2) _ (Ow.last_mem (by assumption)); omega) | (rw [List.length_set]; omega)) (by first | assumption | omega | exact Ow.set_lng (by assumption) (by omega) (by have z := (by assumption : Ow.Wds (2 ^ l_width.toNat) xs_2) _ (Ow.last_mem (by assumption)); omega) | (rw [List.length_set]; omega)) (by first | assumption | omega | exact Ow.set_lng (by assumption) (by omega) (by have z := (by assumption : Ow.Wds (2 ^ l_width.toNat) xs_2) _ (Ow.last_mem (by assumption)); omega) | (rw [List.length_set]; omega)) (by first | assumption | omega | exact Ow.set_lng (by assumption) (by omega) (by have z := (by assumption : Ow.Wds (2 ^ l_width.toNat) xs_2) _ (Ow.last_mem (by assumption)); omega) | (rw [List.length_set]; omega)) _ _ _ ((Ow.same_mut h19 (Same.free (((((((((Ow.same_new h_p).trans (Ow.same_new h_p_2)).trans (Ow.same_new h_p_3)).trans (Ow.same_new h_p_4)).trans (Ow.same_new h_p_5)).trans (Ow.same_new h_p_6)).trans h2).trans h7).trans (Ow.same_new h_p_9)) h_D)).trans (Ow.same_new h_p_10)) (Same.free (Ow.same_mut h19 (Same.free (((((((((Ow.same_new h_p).trans (Ow.same_new h_p_2)).trans (Ow.same_new h_p_3)).trans (Ow.same_new h_p_4)).trans (Ow.same_new h_p_5)).trans (Ow.same_new h_p_6)).trans h2).trans h7).trans (Ow.same_new h_p_9)) h_D)) h_p_10) (Same.free (((((((((Ow.same_new h_p).trans (Ow.same_new h_p_2)).trans (Ow.same_new h_p_3)).trans (Ow.same_new h_p_4)).trans (Ow.same_new h_p_5)).trans (Ow.same_new h_p_6)).trans h2).trans h7).trans (Ow.same_new h_p_9)) h_D) upd_same (Ow.at_new h_p_10 (Ow.set_last upd_same))
      · refine ⟨_, rfl, ?_⟩
        refine ⟨_, rfl, ?_⟩
        refine ⟨_, rfl, ?_⟩
        refine Ow.cc ?_
        refine Ow.ixd (j := 16) (m := 64) (SqL.of (Ow.at_new h_p_9 (h7 _ _ h4))) h1 rfl (fun it_8 h_it_8 b_it_8 => ?_)
        refine ⟨by show 3 ≤ sizeLine; decide, fun p_11 h_p_11 => ?_⟩
        exact kont l_width it_8 ys (by first | assumption | omega | exact Ow.set_lng (by assumption) (by omega) (by have z := (by assumption : Ow.Wds (2 ^ l_width.toNat) xs_2) _ (Ow.last_mem (by assumption)); omega) | (rw [List.length_set]; omega)) (by first | assumption | omega | exact Ow.set_lng (by assumption) (by omega) (by have z := (by assumption : Ow.Wds (2 ^ l_width.toNat) xs_2) _ (Ow.last_mem (by assumption)); omega) | (rw [List.length_set]; omega)) (by first | assumption | omega | exact Ow.set_lng (by assumption) (by omega) (by have z := (by assumption : Ow.Wds (2 ^ l_width.toNat) xs_2) _ (Ow.last_mem (by assumption)); omega) | (rw [List.length_set]; omega)) (by first | assumption | omega | exact Ow.set_lng (by assumption) (by omega) (by have z := (by assumption : Ow.Wds (2 ^ l_width.toNat) xs_2) _ (Ow.last_mem (by assumption)); omega) | (rw [List.length_set]; omega)) _ _ _ ((((((((((Ow.same_new h_p).trans (Ow.same_new h_p_2)).trans (Ow.same_new h_p_3)).trans (Ow.same_new h_p_4)).trans (Ow.same_new h_p_5)).trans (Ow.same_new h_p_6)).trans h2).trans h7).trans (Ow.same_new h_p_9)).trans (Ow.same_new h_p_11)) (Same.free (((((((((Ow.same_new h_p).trans (Ow.same_new h_p_2)).trans (Ow.same_new h_p_3)).trans (Ow.same_new h_p_4)).trans (Ow.same_new h_p_5)).trans (Ow.same_new h_p_6)).trans h2).trans h7).trans (Ow.same_new h_p_9)) h_p_11) (Same.free (((((((Ow.same_new h_p).trans (Ow.same_new h_p_2)).trans (Ow.same_new h_p_3)).trans (Ow.same_new h_p_4)).trans (Ow.same_new h_p_5)).trans (Ow.same_new h_p_6)).trans h2) h8) upd_same (Ow.at_new h_p_11 (Ow.at_new h_p_9 h9))
    · refine iteF ?_
      refine ⟨_, rfl, ?_⟩
      refine ⟨_, rfl, ?_⟩
      refine ⟨_, rfl, ?_⟩
      refine Ow.cc ?_
      refine Ow.ixd (j := 16) (m := 64) (SqL.of (h7 _ _ h4)) h1 rfl (fun it_9 h_it_9 b_it_9 => ?_)
      refine ⟨by show 3 ≤ sizeLine; decide, fun p_12 h_p_12 => ?_⟩
      exact kont l_width it_9 ys (by first | assumption | omega | exact Ow.set_lng (by assumption) (by omega) (by have z := (by assumption : Ow.Wds (2 ^ l_width.toNat) xs_2) _ (Ow.last_mem (by assumption)); omega) | (rw [List.length_set]; omega)) (by first | assumption | omega | exact Ow.set_lng (by assumption) (by omega) (by have z := (by assumption : Ow.Wds (2 ^ l_width.toNat) xs_2) _ (Ow.last_mem (by assumption)); omega) | (rw [List.length_set]; omega)) (by first | assumption | omega | exact Ow.set_lng (by assumption) (by omega) (by have z := (by assumption : Ow.Wds (2 ^ l_width.toNat) xs_2) _ (Ow.last_mem (by assumption)); omega) | (rw [List.length_set]; omega)) (by first | assumption | omega | exact Ow.set_lng (by assumption) (by omega) (by have z := (by assumption : Ow.Wds (2 ^ l_width.toNat) xs_2) _ (Ow.last_mem (by assumption)); omega) | (rw [List.length_set]; omega)) _ _ _ (((((((((Ow.same_new h_p).trans (Ow.same_new h_p_2)).trans (Ow.same_new h_p_3)).trans (Ow.same_new h_p_4)).trans (Ow.same_new h_p_5)).trans (Ow.same_new h_p_6)).trans h2).trans h7).trans (Ow.same_new h_p_12)) (Same.free ((((((((Ow.same_new h_p).trans (Ow.same_new h_p_2)).trans (Ow.same_new h_p_3)).trans (Ow.same_new h_p_4)).trans (Ow.same_new h_p_5)).trans (Ow.same_new h_p_6)).trans h2).trans h7) h_p_12) (Same.free (((((((Ow.same_new h_p).trans (Ow.same_new h_p_2)).trans (Ow.same_new h_p_3)).trans (Ow.same_new h_p_4)).trans (Ow.same_new h_p_5)).trans (Ow.same_new h_p_6)).trans h2) h8) upd_same (Ow.at_new h_p_12 h9)
theorem ok_l_number (T : Tx K mg) : FnOk P w K mg base CX0 1 T.d_l_number.f T.d_l_number.fd ["_law_words", "_law_width"] (sp_l_number T) := by
  refine T.d_l_number.F.ok sc_l_number (fun vs H Q E h => ?_) (fun cdv A outer s H vs Q E hr h => ?_)
  · obtain ⟨words, width, xs, rfl, _⟩ := h
    rfl
  · obtain ⟨words, width, xs, rfl, c0, c1, c2, c3, c4, kont⟩ := h
    have p32_width := Ow.pow2_le32 (w := width) (by omega)
    have p0_width := Ow.p2 width.toNat
    have hW : 16 ≤ (2 : Int) ^ width.toNat := Ow.pow2_mono (a := 4) (b := width.toNat) (by omega)
    refine ⟨_, (pss_cons (ps_set (i := 2) sc_l_number.nd rfl (Or.inl rfl) pe_int)
        (pss_cons (ps_for PassesOwn.never rfl (pi_list (pe_revL (pv 0))) (pg_name (i := 3) sc_l_number.nd rfl (Or.inl rfl)) (pss_one (ps_set (i := 2) sc_l_number.nd rfl (Or.inl rfl) (pe_op Ow.op_bor (pe_op Ow.op_shlN (pv 2) (pv 1)) (pv 3)))))
        (pss_one (ps_ret (pv 2))))), ?_⟩
    refine ⟨_, rfl, ?_⟩
    refine ⟨_, _, rfl, (SqL.of c0), fun p h_p => ?_⟩
    refine ⟨_, rfl, ⟨_, (SqL.of (Ow.sl_rev (xs := xs)))⟩, ?_⟩
    refine for_list (K := K) (a := p) (xs := (xs.reverse.map V.int)) (fun ixv σ2 H2 => ∃ (n : Int) (v_3 : Option V), σ2 = [some (.ref words), some (.int (width)), some (.int (n)), v_3] ∧ Same H H2 ∧ H2 p = some (.lst (xs.reverse.map V.int)) ∧ (n = Ow.val (2 ^ width.toNat) (List.take ixv xs.reverse).reverse) ∧ True) ⟨0, _, rfl, (Ow.same_new h_p), (Ow.sl_rev (xs := xs)), (by rfl), trivial⟩ (fun i σ2 H2 _ hz => ?_) ?_ ?_
    · obtain ⟨n, _, rfl, h1, h2, h3, _⟩ := hz
      exact (SqL.of h2)
    · rintro i xit _ Hn h4 ⟨n_2, _, rfl, h5, h6, h7, _⟩
      obtain ⟨l_word, rfl, h_l_word⟩ := Ow.ints_get (xs := xs.reverse) h4
      have hf0 := h7
      have hp := c1.rev.get h_l_word
      have hnn : 0 ≤ n_2 := by rw [hf0]; exact Ow.val_nn (by omega) ((c1.rev.take _).rev)
      have hzz : Ow.Sz 2560 n_2 := by rw [hf0]; exact Ow.val_sz 80 (by omega) (by omega) ((c1.rev.take _).rev) (by rw [List.length_reverse, List.length_take, List.length_reverse]; omega)
      refine ⟨_, rfl, ?_⟩
      refine ⟨_, rfl, ?_⟩
      refine ⟨_, _, rfl, rfl, (by exact Or.inr (Ow.shlz (a := 2560) (n := 40) hzz (by omega) (by omega) (by decide))), fun s h_s => ?_⟩
      refine ⟨_, rfl, ?_⟩
      refine ⟨_, _, rfl, rfl, (by rw [h_s]; exact Int.mul_nonneg hnn (Int.le_of_lt (Ow.p2 _))), (by exact hp.1), fun l_number_here h_l_number_here h0_l_number_here => ?_⟩
      exact ⟨l_number_here, _, rfl, h5, h6, (by (rw [Ow.rev_turn h_l_word]; exact Ow.num_turn hf0 (Ow.bor_add (n := width.toNat) (by rw [h_l_number_here, h_s]) hnn hp.1 hp.2))), trivial⟩
    · rintro _ Hn_2 ⟨n_3, _, rfl, h8, h9, h10, _⟩
      have hall := h10
      rw [List.length_map, List.take_length, List.reverse_reverse] at hall
      refine ⟨_, rfl, ?_⟩
      exact kont n_3 (by first | exact hall | (rw [hall]; exact Ow.val_nn (by omega) c1) | (rw [hall]; exact Ow.val_sz 80 (by omega) (by omega) c1 (by omega))) (by first | exact hall | (rw [hall]; exact Ow.val_nn (by omega) c1) | (rw [hall]; exact Ow.val_sz 80 (by omega) (by omega) c1 (by omega))) (by first | exact hall | (rw [hall]; exact Ow.val_nn (by omega) c1) | (rw [hall]; exact Ow.val_sz 80 (by omega) (by omega) c1 (by omega))) _ h8
theorem ok_is_whole (T : Tx K mg) : FnOk P w K mg base CX0 1 T.d_is_whole.f T.d_is_whole.fd ["thing"] (sp_is_whole T) := by
  refine T.d_is_whole.F.ok sc_is_whole (fun vs H Q E h => ?_) (fun cdv A outer s H vs Q E hr h => ?_)
  · rcases h with h | h | h | h | h
    · obtain ⟨thing, rfl, _⟩ := h; rfl
    · obtain ⟨thing, rfl, _⟩ := h; rfl
    · obtain ⟨thing, rfl, _⟩ := h; rfl
    · obtain ⟨rfl, _⟩ := h; rfl
    · obtain ⟨thing, z, rfl, _⟩ := h; rfl
  · refine ⟨_, (pss_one (ps_ret (pe_and (pe_callB call_isi (by rfl) T.z_isinstance (by decide +kernel) (pa_cons (pv 0) (pa_cons (pe_bltn (v := .ty "int") (by rfl) T.z_int (by decide +kernel) rfl) pa_nil))) (pe_one (pe_not (pe_callB call_isi (by rfl) T.z_isinstance (by decide +kernel) (pa_cons (pv 0) (pa_cons (pe_bltn (v := .ty "bool") (by rfl) T.z_bool (by decide +kernel) rfl) pa_nil)))))))), ?_⟩
    rcases h with h | h | h | h | h
    · obtain ⟨thing, rfl, kont⟩ := h
      refine ⟨_, rfl, ?_⟩
      refine ⟨_, _, _, _, true, rfl, .ty _, .base (.int _), kit_ty (by decide +kernel), ?_⟩
      refine ⟨_, rfl, ?_⟩
      refine iteT ?_
      refine ⟨_, rfl, ?_⟩
      refine ⟨_, _, _, _, false, rfl, .ty _, .base (.int _), kit_ty (by decide +kernel), ?_⟩
      refine ⟨_, rfl, ?_⟩
      exact kont
    · obtain ⟨thing, rfl, kont⟩ := h
      refine ⟨_, rfl, ?_⟩
      refine ⟨_, _, _, _, true, rfl, .ty _, .base (.bl _), kit_ty (by decide +kernel), ?_⟩
      refine ⟨_, rfl, ?_⟩
      refine iteT ?_
      refine ⟨_, rfl, ?_⟩
      refine ⟨_, _, _, _, true, rfl, .ty _, .base (.bl _), kit_ty (by decide +kernel), ?_⟩
      refine ⟨_, rfl, ?_⟩
      exact kont
    · obtain ⟨thing, rfl, kont⟩ := h
      refine ⟨_, rfl, ?_⟩
      refine ⟨_, _, _, _, false, rfl, .ty _, .base (.str _), kit_ty (by decide +kernel), ?_⟩
      refine ⟨_, rfl, ?_⟩
      refine iteF ?_
      exact kont
    · obtain ⟨rfl, kont⟩ := h
      refine ⟨_, rfl, ?_⟩
      refine ⟨_, _, _, _, false, rfl, .ty _, .base (.non), kit_ty (by decide +kernel), ?_⟩
      refine ⟨_, rfl, ?_⟩
      refine iteF ?_
      exact kont
    · obtain ⟨thing, z, rfl, c0, kont⟩ := h
      refine ⟨_, rfl, ?_⟩
      refine ⟨_, _, _, _, false, rfl, .ty _, .base (.lst c0), kit_ty (by decide +kernel), ?_⟩
      refine ⟨_, rfl, ?_⟩
      refine iteF ?_
      exact kont
theorem ok_need_width (T : Tx K mg) : FnOk P w K mg base CX0 3 T.d_need_width.f T.d_need_width.fd ["width"] (sp_need_width T) := by
  refine T.d_need_width.F.ok sc_need_width (fun vs H Q E h => ?_) (fun cdv A outer s H vs Q E hr h => ?_)
  · obtain ⟨width, rfl, _⟩ := h
    rfl
  · obtain ⟨width, rfl, c0, c1, kont⟩ := h
    have p32_width := Ow.pow2_le32 (w := width) (by omega)
    have p0_width := Ow.p2 width.toNat
    refine ⟨_, (pss_one (ps_if (PW.pt (pw_or (pt_not (pt_val (pe_call (Ow.ok_is_whole T) (hr.mono (by decide : 1 ≤ 2)) (by rfl) T.d_is_whole.m T.d_is_whole.F.kp T.d_is_whole.b .nil pass0 (pa_cons (pv 0) pa_nil)))) (pw_or1 (pt_not (pt_chain op_le op_le (pe_glob (v := .int (4)) rfl T.g_LEAST_WIDTH.choose_spec ⟨_, rfl⟩) (pv 0) (pe_glob (v := .int (32)) rfl T.g_GREATEST_WIDTH.choose_spec ⟨_, rfl⟩)))))) (pss_one ps_never) pss_nil)), ?_⟩
    refine ⟨_, rfl, ?_⟩
    refine Or.inl ?_
    refine ⟨_, rfl, ?_⟩
    refine ⟨_, rfl, ?_⟩
    refine iteF ?_
    refine ⟨_, rfl, ?_⟩
    refine ⟨_, _, rfl, rfl, ?_⟩
    refine ⟨_, rfl, ?_⟩
    refine Ow.ifd (fun h1 => ?_) (fun h1 => ?_)
    · refine ⟨_, _, rfl, rfl, ?_⟩
      refine ⟨_, rfl, ?_⟩
      refine Ow.ifnd (fun h2 => ?_) (fun h2 => ?_)
      · exact ((by first | assumption | exact (by assumption : Ow.Lng _ _).1 | exact Or.inr (Ow.mulx (a := 1280) (b := 1280) (by assumption) (by assumption) (by decide)) | assumption | exact Ow.divw64 (by omega) (by omega) | exact Ow.mul0 ⟨by omega, by omega⟩ | exact Ow.mul1 ⟨by omega, by omega⟩ | exact Ow.shl0 (by omega) (by omega) (by omega) | exact ⟨by omega, by omega⟩ | exact ⟨by omega, by omega, by omega⟩ | omega | (simp only [List.length_append, List.length_cons, List.length_nil]; omega) | (subst_vars; omega)) : False).elim
      · exact kont
    · refine ⟨_, rfl, ?_⟩
      refine iteT ?_
      exact ((by first | assumption | exact (by assumption : Ow.Lng _ _).1 | exact Or.inr (Ow.mulx (a := 1280) (b := 1280) (by assumption) (by assumption) (by decide)) | assumption | exact Ow.divw64 (by omega) (by omega) | exact Ow.mul0 ⟨by omega, by omega⟩ | exact Ow.mul1 ⟨by omega, by omega⟩ | exact Ow.shl0 (by omega) (by omega) (by omega) | exact ⟨by omega, by omega⟩ | exact ⟨by omega, by omega, by omega⟩ | omega | (simp only [List.length_append, List.length_cons, List.length_nil]; omega) | (subst_vars; omega)) : False).elim
theorem ok_long_of (T : Tx K mg) : FnOk P w K mg base CX0 4 T.d_long_of.f T.d_long_of.fd ["width", "number"] (sp_long_of T) := by
  refine T.d_long_of.F.ok sc_long_of (fun vs H Q E h => ?_) (fun cdv A outer s H vs Q E hr h => ?_)
  · obtain ⟨width, number, rfl, _⟩ := h
    rfl
  · obtain ⟨width, number, rfl, c0, c1, c2, c3, kont⟩ := h
    have p32_width := Ow.pow2_le32 (w := width) (by omega)
    have p0_width := Ow.p2 width.toNat
    have hW : 16 ≤ (2 : Int) ^ width.toNat := Ow.pow2_mono (a := 4) (b := width.toNat) (by omega)
    refine ⟨_, (pss_cons (ps_expr (pe_call (Ow.ok_need_width T) (hr.mono (by decide : 3 ≤ 3)) (by rfl) T.d_need_width.m T.d_need_width.F.kp T.d_need_width.b .nil pass0 (pa_cons (pv 0) pa_nil)))
        (pss_cons (ps_if (PW.pt (pw_or (pt_not (pt_val (pe_call (Ow.ok_is_whole T) (hr.mono (by decide : 1 ≤ 3)) (by rfl) T.d_is_whole.m T.d_is_whole.F.kp T.d_is_whole.b .nil pass0 (pa_cons (pv 1) pa_nil)))) (pw_or1 (pt_cmpR op_lt (pv 1) pe_int (nomark _))))) (pss_one ps_never) pss_nil)
        (pss_cons (ps_set (i := 2) sc_long_of.nd rfl (Or.inl rfl) (Ow.pe_nmi (pe_op op_sub (pe_op Ow.op_shl1 pe_int (pv 0)) pe_int)))
        (pss_cons (ps_set (i := 3) sc_long_of.nd rfl (Or.inl rfl) (pe_lst pa_nil))
        (pss_cons (ps_while PassesOwn.never (pt_cmpR op_gt (pv 1) pe_int (nomark _)) (pss_cons (ps_expr (pe_bm PySem.F.plainAttrs_list PySem.F.slot_list_append PySem.F.type_list_append mt_append (pv 3) (pa_cons (pe_op Ow.op_mask (pv 1) (pv 2)) pa_nil)))
        (pss_one (ps_set (i := 1) sc_long_of.nd rfl (Or.inl rfl) (pe_op Ow.op_shrN (pv 1) (pv 0))))))
        (pss_one (ps_ret (pv 3)))))))), ?_⟩
    refine ⟨_, rfl, ?_⟩
    refine ⟨_, rfl, (by first | assumption | exact (by assumption : Ow.Lng _ _).1 | exact Or.inr (Ow.mulx (a := 1280) (b := 1280) (by assumption) (by assumption) (by decide)) | assumption | exact Ow.divw64 (by omega) (by omega) | exact Ow.mul0 ⟨by omega, by omega⟩ | exact Ow.mul1 ⟨by omega, by omega⟩ | exact Ow.shl0 (by omega) (by omega) (by omega) | exact ⟨by omega, by omega⟩ | exact ⟨by omega, by omega, by omega⟩ | omega | (simp only [List.length_append, List.length_cons, List.length_nil]; omega) | (subst_vars; omega)), (by first | assumption | exact (by assumption : Ow.Lng _ _).1 | exact Or.inr (Ow.mulx (a := 1280) (b := 1280) (by assumption) (by assumption) (by decide)) | assumption | exact Ow.divw64 (by omega) (by omega) | exact Ow.mul0 ⟨by omega, by omega⟩ | exact Ow.mul1 ⟨by omega, by omega⟩ | exact Ow.shl0 (by omega) (by omega) (by omega) | exact ⟨by omega, by omega⟩ | exact ⟨by omega, by omega, by omega⟩ | omega | (simp only [List.length_append, List.length_cons, List.length_nil]; omega) | (subst_vars; omega)), ?_⟩
    refine ⟨_, rfl, ?_⟩
    refine Or.inl ?_
    refine ⟨_, rfl, ?_⟩
    refine ⟨_, rfl, ?_⟩
    refine iteF ?_
    refine ⟨_, rfl, ?_⟩
    refine ⟨_, _, rfl, rfl, ?_⟩
    refine ⟨_, rfl, ?_⟩
    refine Ow.ifd (fun h1 => ?_) (fun h1 => ?_)
    · exact ((by first | assumption | exact (by assumption : Ow.Lng _ _).1 | exact Or.inr (Ow.mulx (a := 1280) (b := 1280) (by assumption) (by assumption) (by decide)) | assumption | exact Ow.divw64 (by omega) (by omega) | exact Ow.mul0 ⟨by omega, by omega⟩ | exact Ow.mul1 ⟨by omega, by omega⟩ | exact Ow.shl0 (by omega) (by omega) (by omega) | exact ⟨by omega, by omega⟩ | exact ⟨by omega, by omega, by omega⟩ | omega | (simp only [List.length_append, List.length_cons, List.length_nil]; omega) | (subst_vars; omega)) : False).elim
    · refine ⟨_, rfl, ?_⟩
      refine ⟨_, rfl, rfl, (by first | assumption | exact (by assumption : Ow.Lng _ _).1 | exact Or.inr (Ow.mulx (a := 1280) (b := 1280) (by assumption) (by assumption) (by decide)) | assumption | exact Ow.divw64 (by omega) (by omega) | exact Ow.mul0 ⟨by omega, by omega⟩ | exact Ow.mul1 ⟨by omega, by omega⟩ | exact Ow.shl0 (by omega) (by omega) (by omega) | exact ⟨by omega, by omega⟩ | exact ⟨by omega, by omega, by omega⟩ | omega | (simp only [List.length_append, List.length_cons, List.length_nil]; omega) | (subst_vars; omega)), fun B h_B h0_B => ?_⟩
      refine ⟨_, _, rfl, rfl, ?_⟩
      refine ⟨_, rfl, fun most h_most => ?_⟩
      refine ⟨by show 0 ≤ sizeLine; decide, fun p h_p => ?_⟩
      obtain ⟨Wi, h2⟩ : ∃ W : Hp → Nat → L2.St → Hp → Prop, W = fun H0 m σ2 H2 => ∃ (n : Int) (ws : List Int), m = n.toNat ∧ σ2 = [some (.int (width)), some (.int (n)), some (.int (most)), some (.ref p)] ∧ Ow.Fm p H0 H2 ∧ H2 p = some (.lst (ws.map V.int)) ∧ (0 ≤ n) ∧ (Ow.Wds (2 ^ width.toNat) ws) ∧ (number = Ow.val (2 ^ width.toNat) ws + (2 ^ width.toNat) ^ ws.length * n) ∧ (n = 0 → Ow.Lng (2 ^ width.toNat) ws) ∧ (ws.length ≤ 5300) ∧ True := ⟨_, rfl⟩
      refine ⟨Wi _, ⟨_, by rw [h2]; exact ⟨_, _, rfl, rfl, Ow.Fm.refl, upd_same, (by first | assumption | exact Ow.Wds.nil | (simp [Ow.val_nil]; done) | exact fun _ => Ow.Lng.nil), (by first | assumption | exact Ow.Wds.nil | (simp [Ow.val_nil]; done) | exact fun _ => Ow.Lng.nil), (by first | assumption | exact Ow.Wds.nil | (simp [Ow.val_nil]; done) | exact fun _ => Ow.Lng.nil), (by first | assumption | exact Ow.Wds.nil | (simp [Ow.val_nil]; done) | exact fun _ => Ow.Lng.nil), (by first | assumption | exact Ow.Wds.nil | (simp [Ow.val_nil]; done) | exact fun _ => Ow.Lng.nil), trivial⟩⟩, ?_⟩
      intro m σ2 Hn h4
      rw [h2] at h4
      obtain ⟨n, ws, rfl, rfl, h3, h5, h6, h7, h8, h9, h10, _⟩ := h4
      refine ⟨_, rfl, ?_⟩
      refine ⟨_, _, rfl, rfl, ?_⟩
      refine ⟨_, rfl, ?_⟩
      refine Ow.ifd (fun h11 => ?_) (fun h11 => ?_)
      · refine ⟨fun σ3 H3 => ∃ m2, m2 < n.toNat ∧ Wi _ m2 σ3 H3, fun _ _ z => z, ?_⟩
        have hwl := Ow.wlen (B := 2 ^ width.toNat) (N := number) (s := 5300) (by omega) (by assumption) (Ow.val_nn (by omega) (by assumption)) (by omega) c3
        refine ⟨_, rfl, ?_⟩
        refine ⟨.inl ⟨rfl, _, (SqL.of h5)⟩, ?_⟩
        refine ⟨_, rfl, ?_⟩
        refine ⟨_, rfl, ?_⟩
        refine ⟨_, _, width.toNat, rfl, rfl, (by first | assumption | exact (by assumption : Ow.Lng _ _).1 | exact Or.inr (Ow.mulx (a := 1280) (b := 1280) (by assumption) (by assumption) (by decide)) | assumption | exact Ow.divw64 (by omega) (by omega) | exact Ow.mul0 ⟨by omega, by omega⟩ | exact Ow.mul1 ⟨by omega, by omega⟩ | exact Ow.shl0 (by omega) (by omega) (by omega) | exact ⟨by omega, by omega⟩ | exact ⟨by omega, by omega, by omega⟩ | omega | (simp only [List.length_append, List.length_cons, List.length_nil]; omega) | (subst_vars; omega)), fun r h_r h0_r h1_r => ?_⟩
        refine ⟨_, _, _, rfl, rfl, h5, (Ow.szl (by rw [List.length_map]; omega)), ?_⟩
        refine ⟨_, rfl, ?_⟩
        refine ⟨_, rfl, ?_⟩
        refine ⟨_, _, rfl, rfl, (by first | assumption | exact (by assumption : Ow.Lng _ _).1 | exact Or.inr (Ow.mulx (a := 1280) (b := 1280) (by assumption) (by assumption) (by decide)) | assumption | exact Ow.divw64 (by omega) (by omega) | exact Ow.mul0 ⟨by omega, by omega⟩ | exact Ow.mul1 ⟨by omega, by omega⟩ | exact Ow.shl0 (by omega) (by omega) (by omega) | exact ⟨by omega, by omega⟩ | exact ⟨by omega, by omega, by omega⟩ | omega | (simp only [List.length_append, List.length_cons, List.length_nil]; omega) | (subst_vars; omega)), fun number_2 h_number_2 => ?_⟩
        refine ⟨_, ?_, by rw [h2]; exact ⟨number_2, (ws ++ [r]), rfl, rfl, ((Ow.Fm.refl.trans h3).mut), (Ow.ap_ints upd_same), (by first | exact Ow.Wds.snoc (by assumption) (by omega) (by omega) | exact Ow.words_turn (by omega) (by assumption) h_r h_number_2 | exact Ow.words_lng (by omega) (by omega) (by assumption) h_r h_number_2 | exact (Ow.quo_b h_number_2 (by omega) (by omega)).1 | (rw [List.length_append, List.length_singleton]; omega)), (by first | exact Ow.Wds.snoc (by assumption) (by omega) (by omega) | exact Ow.words_turn (by omega) (by assumption) h_r h_number_2 | exact Ow.words_lng (by omega) (by omega) (by assumption) h_r h_number_2 | exact (Ow.quo_b h_number_2 (by omega) (by omega)).1 | (rw [List.length_append, List.length_singleton]; omega)), (by first | exact Ow.Wds.snoc (by assumption) (by omega) (by omega) | exact Ow.words_turn (by omega) (by assumption) h_r h_number_2 | exact Ow.words_lng (by omega) (by omega) (by assumption) h_r h_number_2 | exact (Ow.quo_b h_number_2 (by omega) (by omega)).1 | (rw [List.length_append, List.length_singleton]; omega)), (by first | exact Ow.Wds.snoc (by assumption) (by omega) (by omega) | exact Ow.words_turn (by omega) (by assumption) h_r h_number_2 | exact Ow.words_lng (by omega) (by omega) (by assumption) h_r h_number_2 | exact (Ow.quo_b h_number_2 (by omega) (by omega)).1 | (rw [List.length_append, List.length_singleton]; omega)), (by first | exact Ow.Wds.snoc (by assumption) (by omega) (by omega) | exact Ow.words_turn (by omega) (by assumption) h_r h_number_2 | exact Ow.words_lng (by omega) (by omega) (by assumption) h_r h_number_2 | exact (Ow.quo_b h_number_2 (by omega) (by omega)).1 | (rw [List.length_append, List.length_singleton]; omega)), trivial⟩⟩
        have ql := Ow.quo_lt h_number_2 (by omega) (by omega); omega
      · refine ⟨_, rfl, ?_⟩
        exact kont ws (by first | assumption | exact (by assumption : n = 0 → Ow.Lng (2 ^ width.toNat) ws) (by omega) | exact Ow.words_end (by assumption) (by omega)) (by first | assumption | exact (by assumption : n = 0 → Ow.Lng (2 ^ width.toNat) ws) (by omega) | exact Ow.words_end (by assumption) (by omega)) (by first | assumption | exact (by assumption : n = 0 → Ow.Lng (2 ^ width.toNat) ws) (by omega) | exact Ow.words_end (by assumption) (by omega)) _ _ (Ow.same_frame (Ow.same_new h_p) h3 h_p) h_p h5
theorem ok_is_long (T : Tx K mg) : FnOk P w K mg base CX0 4 T.d_is_long.f T.d_is_long.fd ["width", "thing"] (sp_is_long T) := by
  refine T.d_is_long.F.ok sc_is_long (fun vs H Q E h => ?_) (fun cdv A outer s H vs Q E hr h => ?_)
  · rcases h with h | h | h | h | h | h | h | h
    · obtain ⟨width, thing, xs, rfl, _⟩ := h; rfl
    · obtain ⟨width, thing, xs, rfl, _⟩ := h; rfl
    · obtain ⟨width, thing, ps, b, rest, rfl, _⟩ := h; rfl
    · obtain ⟨width, thing, ps, t, rest, rfl, _⟩ := h; rfl
    · obtain ⟨width, thing, ps, rest, rfl, _⟩ := h; rfl
    · obtain ⟨width, thing, ps, u, z, rest, rfl, _⟩ := h; rfl
    · obtain ⟨width, thing, xs, rfl, _⟩ := h; rfl
    · obtain ⟨width, rfl, _⟩ := h; rfl
  · refine ⟨_, (pss_cons (ps_expr (pe_call (Ow.ok_need_width T) (hr.mono (by decide : 3 ≤ 3)) (by rfl) T.d_need_width.m T.d_need_width.F.kp T.d_need_width.b .nil pass0 (pa_cons (pv 0) pa_nil)))
        (pss_cons (ps_if (pt_not (pt_val (pe_callB call_isi (by rfl) T.z_isinstance (by decide +kernel) (pa_cons (pv 1) (pa_cons (pe_bltn (v := .ty "list") (by rfl) T.z_list (by decide +kernel) rfl) pa_nil))))) (pss_one (ps_ret pe_bl)) pss_nil)
        (pss_cons (ps_for PassesOwn.never rfl (pi_list (pv 1)) (pg_name (i := 2) sc_is_long.nd rfl (Or.inl rfl)) (pss_one (ps_if (PW.pt (pw_or (pt_not (pt_val (pe_call (Ow.ok_is_whole T) (hr.mono (by decide : 1 ≤ 3)) (by rfl) T.d_is_whole.m T.d_is_whole.F.kp T.d_is_whole.b .nil pass0 (pa_cons (pv 2) pa_nil)))) (pw_or (pt_cmpR op_lt (pv 2) pe_int (nomark _)) (pw_or1 (pt_cmpR op_gt (pe_op Ow.op_shrN (pv 2) (pv 0)) pe_int (nomark _)))))) (pss_one (ps_ret pe_bl)) pss_nil)))
        (pss_one (ps_ret (pe_or (pe_cmpR op_eq (Ow.pe_nmi (pe_callB call_len_seq (by rfl) T.z_len (by decide +kernel) (pa_cons (pv 1) pa_nil))) pe_int (nomark _)) (pe_one (pe_cmpR op_ne (pe_ix ix_list (pv 1) (Ow.pe_lit (-1) (pe_un un_neg pe_int)) (fun _ _ => rfl)) pe_int (nomark _))))))))), ?_⟩
    rcases h with h | h | h | h | h | h | h | h
    · obtain ⟨width, thing, xs, rfl, c0, c1, c2, c3, kont⟩ := h
      have p32_width := Ow.pow2_le32 (w := width) (by omega)
      have p0_width := Ow.p2 width.toNat
      refine ⟨_, rfl, ?_⟩
      refine ⟨_, rfl, (by first | assumption | exact (by assumption : Ow.Lng _ _).1 | exact Or.inr (Ow.mulx (a := 1280) (b := 1280) (by assumption) (by assumption) (by decide)) | assumption | exact Ow.divw64 (by omega) (by omega) | exact Ow.mul0 ⟨by omega, by omega⟩ | exact Ow.mul1 ⟨by omega, by omega⟩ | exact Ow.shl0 (by omega) (by omega) (by omega) | exact ⟨by omega, by omega⟩ | exact ⟨by omega, by omega, by omega⟩ | omega | (simp only [List.length_append, List.length_cons, List.length_nil]; omega) | (subst_vars; omega)), (by first | assumption | exact (by assumption : Ow.Lng _ _).1 | exact Or.inr (Ow.mulx (a := 1280) (b := 1280) (by assumption) (by assumption) (by decide)) | assumption | exact Ow.divw64 (by omega) (by omega) | exact Ow.mul0 ⟨by omega, by omega⟩ | exact Ow.mul1 ⟨by omega, by omega⟩ | exact Ow.shl0 (by omega) (by omega) (by omega) | exact ⟨by omega, by omega⟩ | exact ⟨by omega, by omega, by omega⟩ | omega | (simp only [List.length_append, List.length_cons, List.length_nil]; omega) | (subst_vars; omega)), ?_⟩
      refine ⟨_, rfl, ?_⟩
      refine ⟨_, _, _, _, true, rfl, .ty _, .base (.lst c2), kit_ty (by decide +kernel), ?_⟩
      refine ⟨_, rfl, ?_⟩
      refine iteF ?_
      refine ⟨_, rfl, ?_⟩
      refine ⟨_, rfl, ⟨_, (SqL.of c2)⟩, ?_⟩
      refine for_list (K := K) (a := thing) (xs := (xs.map V.int)) (fun ixv σ2 H2 => ∃ (v_2 : Option V), σ2 = [some (.int (width)), some (.ref thing), v_2] ∧ Same H H2 ∧ True) ⟨_, rfl, (Same.refl _), trivial⟩ (fun i σ2 H2 _ hz => ?_) ?_ ?_
      · obtain ⟨_, rfl, h1, _⟩ := hz
        exact (SqL.of (h1 _ _ c2))
      · rintro i xit _ Hn h2 ⟨_, rfl, h3, _⟩
        obtain ⟨word, rfl, h_word⟩ := Ow.ints_get (xs := xs) h2
        have hw := c3.1.get h_word
        have hq := Int.ediv_eq_zero_of_lt hw.1 hw.2
        refine ⟨_, rfl, ?_⟩
        refine Or.inl ?_
        refine ⟨_, rfl, ?_⟩
        refine ⟨_, rfl, ?_⟩
        refine iteF ?_
        refine ⟨_, rfl, ?_⟩
        refine ⟨_, _, rfl, rfl, ?_⟩
        refine ⟨_, rfl, ?_⟩
        refine Ow.ifd (fun h4 => ?_) (fun h4 => ?_)
        · refine iteT ?_
          exact ((by first | assumption | exact (by assumption : Ow.Lng _ _).1 | exact Or.inr (Ow.mulx (a := 1280) (b := 1280) (by assumption) (by assumption) (by decide)) | assumption | exact Ow.divw64 (by omega) (by omega) | exact Ow.mul0 ⟨by omega, by omega⟩ | exact Ow.mul1 ⟨by omega, by omega⟩ | exact Ow.shl0 (by omega) (by omega) (by omega) | exact ⟨by omega, by omega⟩ | exact ⟨by omega, by omega, by omega⟩ | omega | (simp only [List.length_append, List.length_cons, List.length_nil]; omega) | (subst_vars; omega)) : False).elim
        · refine ⟨_, rfl, ?_⟩
          refine ⟨_, rfl, ?_⟩
          refine ⟨_, _, rfl, rfl, (by first | assumption | exact (by assumption : Ow.Lng _ _).1 | exact Or.inr (Ow.mulx (a := 1280) (b := 1280) (by assumption) (by assumption) (by decide)) | assumption | exact Ow.divw64 (by omega) (by omega) | exact Ow.mul0 ⟨by omega, by omega⟩ | exact Ow.mul1 ⟨by omega, by omega⟩ | exact Ow.shl0 (by omega) (by omega) (by omega) | exact ⟨by omega, by omega⟩ | exact ⟨by omega, by omega, by omega⟩ | omega | (simp only [List.length_append, List.length_cons, List.length_nil]; omega) | (subst_vars; omega)), fun q h_q => ?_⟩
          refine ⟨_, _, rfl, rfl, ?_⟩
          refine ⟨_, rfl, ?_⟩
          refine Ow.ifd (fun h5 => ?_) (fun h5 => ?_)
          · exact ((by first | assumption | exact (by assumption : Ow.Lng _ _).1 | exact Or.inr (Ow.mulx (a := 1280) (b := 1280) (by assumption) (by assumption) (by decide)) | assumption | exact Ow.divw64 (by omega) (by omega) | exact Ow.mul0 ⟨by omega, by omega⟩ | exact Ow.mul1 ⟨by omega, by omega⟩ | exact Ow.shl0 (by omega) (by omega) (by omega) | exact ⟨by omega, by omega⟩ | exact ⟨by omega, by omega, by omega⟩ | omega | (simp only [List.length_append, List.length_cons, List.length_nil]; omega) | (subst_vars; omega)) : False).elim
          · exact ⟨_, rfl, h3, trivial⟩
      · rintro _ Hn_2 ⟨_, rfl, h6, _⟩
        refine ⟨_, rfl, ?_⟩
        refine ⟨_, _, rfl, .inl (SqL.of (h6 _ _ c2)), ?_⟩
        refine ⟨_, rfl, fun len h_len => ?_⟩
        rw [List.length_map] at h_len
        refine ⟨rfl, ?_⟩
        refine ⟨_, rfl, ?_⟩
        refine Ow.ifeqi (fun h7 => ?_) (fun h7 => ?_)
        · exact kont _ h6
        · refine ⟨_, rfl, ?_⟩
          refine ⟨_, rfl, ?_⟩
          refine ⟨by decide, ?_⟩
          refine Ow.ixlast (xs := xs) (SqL.of (h6 _ _ c2)) (by omega) (fun it h_it => ?_)
          refine ⟨rfl, ?_⟩
          refine Ow.eqnei (by exact c3.2 _ h_it) ?_
          exact kont _ h6
    · obtain ⟨width, thing, xs, rfl, c0, c1, c2, c3, kont⟩ := h
      have p32_width := Ow.pow2_le32 (w := width) (by omega)
      have p0_width := Ow.p2 width.toNat
      refine ⟨_, rfl, ?_⟩
      refine ⟨_, rfl, (by first | assumption | exact (by assumption : Ow.Lng _ _).1 | exact Or.inr (Ow.mulx (a := 1280) (b := 1280) (by assumption) (by assumption) (by decide)) | assumption | exact Ow.divw64 (by omega) (by omega) | exact Ow.mul0 ⟨by omega, by omega⟩ | exact Ow.mul1 ⟨by omega, by omega⟩ | exact Ow.shl0 (by omega) (by omega) (by omega) | exact ⟨by omega, by omega⟩ | exact ⟨by omega, by omega, by omega⟩ | omega | (simp only [List.length_append, List.length_cons, List.length_nil]; omega) | (subst_vars; omega)), (by first | assumption | exact (by assumption : Ow.Lng _ _).1 | exact Or.inr (Ow.mulx (a := 1280) (b := 1280) (by assumption) (by assumption) (by decide)) | assumption | exact Ow.divw64 (by omega) (by omega) | exact Ow.mul0 ⟨by omega, by omega⟩ | exact Ow.mul1 ⟨by omega, by omega⟩ | exact Ow.shl0 (by omega) (by omega) (by omega) | exact ⟨by omega, by omega⟩ | exact ⟨by omega, by omega, by omega⟩ | omega | (simp only [List.length_append, List.length_cons, List.length_nil]; omega) | (subst_vars; omega)), ?_⟩
      refine ⟨_, rfl, ?_⟩
      refine ⟨_, _, _, _, true, rfl, .ty _, .base (.lst c2), kit_ty (by decide +kernel), ?_⟩
      refine ⟨_, rfl, ?_⟩
      refine iteF ?_
      refine ⟨_, rfl, ?_⟩
      refine ⟨_, rfl, ⟨_, (SqL.of c2)⟩, ?_⟩
      refine for_list (K := K) (a := thing) (xs := (xs.map V.int)) (fun ixv σ2 H2 => ∃ (v_2 : Option V), σ2 = [some (.int (width)), some (.ref thing), v_2] ∧ Same H H2 ∧ (Ow.Wds (2 ^ width.toNat) (xs.take ixv)) ∧ True) ⟨_, rfl, (Same.refl _), (by (intro z hz; simp at hz)), trivial⟩ (fun i σ2 H2 _ hz => ?_) ?_ ?_
      · obtain ⟨_, rfl, h8, h9, _⟩ := hz
        exact (SqL.of (h8 _ _ c2))
      · rintro i_2 xit _ Hn_3 h10 ⟨_, rfl, h11, h12, _⟩
        obtain ⟨word_2, rfl, h_word_2⟩ := Ow.ints_get (xs := xs) h10
        refine ⟨_, rfl, ?_⟩
        refine Or.inl ?_
        refine ⟨_, rfl, ?_⟩
        refine ⟨_, rfl, ?_⟩
        refine iteF ?_
        refine ⟨_, rfl, ?_⟩
        refine ⟨_, _, rfl, rfl, ?_⟩
        refine ⟨_, rfl, ?_⟩
        refine Ow.ifd (fun h13 => ?_) (fun h13 => ?_)
        · refine iteT ?_
          exact kont _ h11
        · refine ⟨_, rfl, ?_⟩
          refine ⟨_, rfl, ?_⟩
          refine ⟨_, _, rfl, rfl, (by first | assumption | exact (by assumption : Ow.Lng _ _).1 | exact Or.inr (Ow.mulx (a := 1280) (b := 1280) (by assumption) (by assumption) (by decide)) | assumption | exact Ow.divw64 (by omega) (by omega) | exact Ow.mul0 ⟨by omega, by omega⟩ | exact Ow.mul1 ⟨by omega, by omega⟩ | exact Ow.shl0 (by omega) (by omega) (by omega) | exact ⟨by omega, by omega⟩ | exact ⟨by omega, by omega, by omega⟩ | omega | (simp only [List.length_append, List.length_cons, List.length_nil]; omega) | (subst_vars; omega)), fun q_2 h_q_2 => ?_⟩
          refine ⟨_, _, rfl, rfl, ?_⟩
          refine ⟨_, rfl, ?_⟩
          refine Ow.ifd (fun h14 => ?_) (fun h14 => ?_)
          · exact kont _ h11
          · exact ⟨_, rfl, h11, (by (rw [Ow.take_snoc (by assumption)]; exact Ow.Wds.snoc (by assumption) (by omega) (Ow.sh_lt (by assumption) (by omega) (by omega)))), trivial⟩
      · rintro _ Hn_4 ⟨_, rfl, h15, h16, _⟩
        have hall := h16
        rw [List.length_map, List.take_length] at hall
        refine ⟨_, rfl, ?_⟩
        refine ⟨_, _, rfl, .inl (SqL.of (h15 _ _ c2)), ?_⟩
        refine ⟨_, rfl, fun len_2 h_len_2 => ?_⟩
        rw [List.length_map] at h_len_2
        refine ⟨rfl, ?_⟩
        refine ⟨_, rfl, ?_⟩
        refine Ow.ifeqi (fun h17 => ?_) (fun h17 => ?_)
        · exact ((by exact Ow.bad_nil c3 hall (by omega)) : False).elim
        · refine ⟨_, rfl, ?_⟩
          refine ⟨_, rfl, ?_⟩
          refine ⟨by decide, ?_⟩
          refine Ow.ixlast (xs := xs) (SqL.of (h15 _ _ c2)) (by omega) (fun it_2 h_it_2 => ?_)
          refine ⟨rfl, ?_⟩
          refine Ow.eqb (b := false) (by (have e := Ow.bad_last c3 hall (by assumption); subst e; rfl)) ?_
          exact kont _ h15
    · obtain ⟨width, thing, ps, b, rest, rfl, c0, c1, c2, kont⟩ := h
      have p32_width := Ow.pow2_le32 (w := width) (by omega)
      have p0_width := Ow.p2 width.toNat
      refine ⟨_, rfl, ?_⟩
      refine ⟨_, rfl, (by first | assumption | exact (by assumption : Ow.Lng _ _).1 | exact Or.inr (Ow.mulx (a := 1280) (b := 1280) (by assumption) (by assumption) (by decide)) | assumption | exact Ow.divw64 (by omega) (by omega) | exact Ow.mul0 ⟨by omega, by omega⟩ | exact Ow.mul1 ⟨by omega, by omega⟩ | exact Ow.shl0 (by omega) (by omega) (by omega) | exact ⟨by omega, by omega⟩ | exact ⟨by omega, by omega, by omega⟩ | omega | (simp only [List.length_append, List.length_cons, List.length_nil]; omega) | (subst_vars; omega)), (by first | assumption | exact (by assumption : Ow.Lng _ _).1 | exact Or.inr (Ow.mulx (a := 1280) (b := 1280) (by assumption) (by assumption) (by decide)) | assumption | exact Ow.divw64 (by omega) (by omega) | exact Ow.mul0 ⟨by omega, by omega⟩ | exact Ow.mul1 ⟨by omega, by omega⟩ | exact Ow.shl0 (by omega) (by omega) (by omega) | exact ⟨by omega, by omega⟩ | exact ⟨by omega, by omega, by omega⟩ | omega | (simp only [List.length_append, List.length_cons, List.length_nil]; omega) | (subst_vars; omega)), ?_⟩
      refine ⟨_, rfl, ?_⟩
      refine ⟨_, _, _, _, true, rfl, .ty _, .base (.lst c2), kit_ty (by decide +kernel), ?_⟩
      refine ⟨_, rfl, ?_⟩
      refine iteF ?_
      refine ⟨_, rfl, ?_⟩
      refine ⟨_, rfl, ⟨_, (SqL.of c2)⟩, ?_⟩
      refine for_list (K := K) (a := thing) (xs := (ps.map V.int ++ V.bl (b) :: rest)) (fun ixv σ2 H2 => ∃ (v_2 : Option V), σ2 = [some (.int (width)), some (.ref thing), v_2] ∧ Same H H2 ∧ (ixv ≤ ps.length) ∧ True) ⟨_, rfl, (Same.refl _), (by exact Nat.zero_le _), trivial⟩ (fun i σ2 H2 _ hz => ?_) ?_ ?_
      · obtain ⟨_, rfl, h18, h19, _⟩ := hz
        exact (SqL.of (h18 _ _ c2))
      · rintro i_3 xit _ Hn_5 h20 ⟨_, rfl, h21, h22, _⟩
        rcases Ow.mix_get h22 h20 with ⟨word_3, rfl, h_word_3⟩ | ⟨rfl, h23⟩
        · refine ⟨_, rfl, ?_⟩
          refine Or.inl ?_
          refine ⟨_, rfl, ?_⟩
          refine ⟨_, rfl, ?_⟩
          refine iteF ?_
          refine ⟨_, rfl, ?_⟩
          refine ⟨_, _, rfl, rfl, ?_⟩
          refine ⟨_, rfl, ?_⟩
          refine Ow.ifd (fun h24 => ?_) (fun h24 => ?_)
          · refine iteT ?_
            exact kont _ h21
          · refine ⟨_, rfl, ?_⟩
            refine ⟨_, rfl, ?_⟩
            refine ⟨_, _, rfl, rfl, (by first | assumption | exact (by assumption : Ow.Lng _ _).1 | exact Or.inr (Ow.mulx (a := 1280) (b := 1280) (by assumption) (by assumption) (by decide)) | assumption | exact Ow.divw64 (by omega) (by omega) | exact Ow.mul0 ⟨by omega, by omega⟩ | exact Ow.mul1 ⟨by omega, by omega⟩ | exact Ow.shl0 (by omega) (by omega) (by omega) | exact ⟨by omega, by omega⟩ | exact ⟨by omega, by omega, by omega⟩ | omega | (simp only [List.length_append, List.length_cons, List.length_nil]; omega) | (subst_vars; omega)), fun q_3 h_q_3 => ?_⟩
            refine ⟨_, _, rfl, rfl, ?_⟩
            refine ⟨_, rfl, ?_⟩
            refine Ow.ifd (fun h25 => ?_) (fun h25 => ?_)
            · exact kont _ h21
            · exact ⟨_, rfl, h21, (by exact (List.getElem?_eq_some_iff.mp (by assumption)).1), trivial⟩
        · refine ⟨_, rfl, ?_⟩
          refine Or.inr (Or.inl ?_)
          refine ⟨_, rfl, ?_⟩
          refine ⟨_, rfl, ?_⟩
          refine iteT ?_
          refine iteT ?_
          exact kont _ h21
      · rintro _ Hn_6 ⟨_, rfl, h26, h27, _⟩
        exact (Ow.mix_end h27 : False).elim
    · obtain ⟨width, thing, ps, t, rest, rfl, c0, c1, c2, kont⟩ := h
      have p32_width := Ow.pow2_le32 (w := width) (by omega)
      have p0_width := Ow.p2 width.toNat
      refine ⟨_, rfl, ?_⟩
      refine ⟨_, rfl, (by first | assumption | exact (by assumption : Ow.Lng _ _).1 | exact Or.inr (Ow.mulx (a := 1280) (b := 1280) (by assumption) (by assumption) (by decide)) | assumption | exact Ow.divw64 (by omega) (by omega) | exact Ow.mul0 ⟨by omega, by omega⟩ | exact Ow.mul1 ⟨by omega, by omega⟩ | exact Ow.shl0 (by omega) (by omega) (by omega) | exact ⟨by omega, by omega⟩ | exact ⟨by omega, by omega, by omega⟩ | omega | (simp only [List.length_append, List.length_cons, List.length_nil]; omega) | (subst_vars; omega)), (by first | assumption | exact (by assumption : Ow.Lng _ _).1 | exact Or.inr (Ow.mulx (a := 1280) (b := 1280) (by assumption) (by assumption) (by decide)) | assumption | exact Ow.divw64 (by omega) (by omega) | exact Ow.mul0 ⟨by omega, by omega⟩ | exact Ow.mul1 ⟨by omega, by omega⟩ | exact Ow.shl0 (by omega) (by omega) (by omega) | exact ⟨by omega, by omega⟩ | exact ⟨by omega, by omega, by omega⟩ | omega | (simp only [List.length_append, List.length_cons, List.length_nil]; omega) | (subst_vars; omega)), ?_⟩
      refine ⟨_, rfl, ?_⟩
      refine ⟨_, _, _, _, true, rfl, .ty _, .base (.lst c2), kit_ty (by decide +kernel), ?_⟩
      refine ⟨_, rfl, ?_⟩
      refine iteF ?_
      refine ⟨_, rfl, ?_⟩
      refine ⟨_, rfl, ⟨_, (SqL.of c2)⟩, ?_⟩
      refine for_list (K := K) (a := thing) (xs := (ps.map V.int ++ V.str (t) :: rest)) (fun ixv σ2 H2 => ∃ (v_2 : Option V), σ2 = [some (.int (width)), some (.ref thing), v_2] ∧ Same H H2 ∧ (ixv ≤ ps.length) ∧ True) ⟨_, rfl, (Same.refl _), (by exact Nat.zero_le _), trivial⟩ (fun i σ2 H2 _ hz => ?_) ?_ ?_
      · obtain ⟨_, rfl, h28, h29, _⟩ := hz
        exact (SqL.of (h28 _ _ c2))
      · rintro i_4 xit _ Hn_7 h30 ⟨_, rfl, h31, h32, _⟩
        rcases Ow.mix_get h32 h30 with ⟨word_4, rfl, h_word_4⟩ | ⟨rfl, h33⟩
        · refine ⟨_, rfl, ?_⟩
          refine Or.inl ?_
          refine ⟨_, rfl, ?_⟩
          refine ⟨_, rfl, ?_⟩
          refine iteF ?_
          refine ⟨_, rfl, ?_⟩
          refine ⟨_, _, rfl, rfl, ?_⟩
          refine ⟨_, rfl, ?_⟩
          refine Ow.ifd (fun h34 => ?_) (fun h34 => ?_)
          · refine iteT ?_
            exact kont _ h31
          · refine ⟨_, rfl, ?_⟩
            refine ⟨_, rfl, ?_⟩
            refine ⟨_, _, rfl, rfl, (by first | assumption | exact (by assumption : Ow.Lng _ _).1 | exact Or.inr (Ow.mulx (a := 1280) (b := 1280) (by assumption) (by assumption) (by decide)) | assumption | exact Ow.divw64 (by omega) (by omega) | exact Ow.mul0 ⟨by omega, by omega⟩ | exact Ow.mul1 ⟨by omega, by omega⟩ | exact Ow.shl0 (by omega) (by omega) (by omega) | exact ⟨by omega, by omega⟩ | exact ⟨by omega, by omega, by omega⟩ | omega | (simp only [List.length_append, List.length_cons, List.length_nil]; omega) | (subst_vars; omega)), fun q_4 h_q_4 => ?_⟩
            refine ⟨_, _, rfl, rfl, ?_⟩
            refine ⟨_, rfl, ?_⟩
            refine Ow.ifd (fun h35 => ?_) (fun h35 => ?_)
            · exact kont _ h31
            · exact ⟨_, rfl, h31, (by exact (List.getElem?_eq_some_iff.mp (by assumption)).1), trivial⟩
        · refine ⟨_, rfl, ?_⟩
          refine Or.inr (Or.inr (Or.inl ?_))
          refine ⟨_, rfl, ?_⟩
          refine ⟨_, rfl, ?_⟩
          refine iteT ?_
          refine iteT ?_
          exact kont _ h31
      · rintro _ Hn_8 ⟨_, rfl, h36, h37, _⟩
        exact (Ow.mix_end h37 : False).elim
    · obtain ⟨width, thing, ps, rest, rfl, c0, c1, c2, kont⟩ := h
      have p32_width := Ow.pow2_le32 (w := width) (by omega)
      have p0_width := Ow.p2 width.toNat
      refine ⟨_, rfl, ?_⟩
      refine ⟨_, rfl, (by first | assumption | exact (by assumption : Ow.Lng _ _).1 | exact Or.inr (Ow.mulx (a := 1280) (b := 1280) (by assumption) (by assumption) (by decide)) | assumption | exact Ow.divw64 (by omega) (by omega) | exact Ow.mul0 ⟨by omega, by omega⟩ | exact Ow.mul1 ⟨by omega, by omega⟩ | exact Ow.shl0 (by omega) (by omega) (by omega) | exact ⟨by omega, by omega⟩ | exact ⟨by omega, by omega, by omega⟩ | omega | (simp only [List.length_append, List.length_cons, List.length_nil]; omega) | (subst_vars; omega)), (by first | assumption | exact (by assumption : Ow.Lng _ _).1 | exact Or.inr (Ow.mulx (a := 1280) (b := 1280) (by assumption) (by assumption) (by decide)) | assumption | exact Ow.divw64 (by omega) (by omega) | exact Ow.mul0 ⟨by omega, by omega⟩ | exact Ow.mul1 ⟨by omega, by omega⟩ | exact Ow.shl0 (by omega) (by omega) (by omega) | exact ⟨by omega, by omega⟩ | exact ⟨by omega, by omega, by omega⟩ | omega | (simp only [List.length_append, List.length_cons, List.length_nil]; omega) | (subst_vars; omega)), ?_⟩
      refine ⟨_, rfl, ?_⟩
      refine ⟨_, _, _, _, true, rfl, .ty _, .base (.lst c2), kit_ty (by decide +kernel), ?_⟩
      refine ⟨_, rfl, ?_⟩
      refine iteF ?_
      refine ⟨_, rfl, ?_⟩
      refine ⟨_, rfl, ⟨_, (SqL.of c2)⟩, ?_⟩
      refine for_list (K := K) (a := thing) (xs := (ps.map V.int ++ V.non :: rest)) (fun ixv σ2 H2 => ∃ (v_2 : Option V), σ2 = [some (.int (width)), some (.ref thing), v_2] ∧ Same H H2 ∧ (ixv ≤ ps.length) ∧ True) ⟨_, rfl, (Same.refl _), (by exact Nat.zero_le _), trivial⟩ (fun i σ2 H2 _ hz => ?_) ?_ ?_
      · obtain ⟨_, rfl, h38, h39, _⟩ := hz
        exact (SqL.of (h38 _ _ c2))
      · rintro i_5 xit _ Hn_9 h40 ⟨_, rfl, h41, h42, _⟩
        rcases Ow.mix_get h42 h40 with ⟨word_5, rfl, h_word_5⟩ | ⟨rfl, h43⟩
        · refine ⟨_, rfl, ?_⟩
          refine Or.inl ?_
          refine ⟨_, rfl, ?_⟩
          refine ⟨_, rfl, ?_⟩
          refine iteF ?_
          refine ⟨_, rfl, ?_⟩
          refine ⟨_, _, rfl, rfl, ?_⟩
          refine ⟨_, rfl, ?_⟩
          refine Ow.ifd (fun h44 => ?_) (fun h44 => ?_)
          · refine iteT ?_
            exact kont _ h41
          · refine ⟨_, rfl, ?_⟩
            refine ⟨_, rfl, ?_⟩
            refine ⟨_, _, rfl, rfl, (by first | assumption | exact (by assumption : Ow.Lng _ _).1 | exact Or.inr (Ow.mulx (a := 1280) (b := 1280) (by assumption) (by assumption) (by decide)) | assumption | exact Ow.divw64 (by omega) (by omega) | exact Ow.mul0 ⟨by omega, by omega⟩ | exact Ow.mul1 ⟨by omega, by omega⟩ | exact Ow.shl0 (by omega) (by omega) (by omega) | exact ⟨by omega, by omega⟩ | exact ⟨by omega, by omega, by omega⟩ | omega | (simp only [List.length_append, List.length_cons, List.length_nil]; omega) | (subst_vars; omega)), fun q_5 h_q_5 => ?_⟩
            refine ⟨_, _, rfl, rfl, ?_⟩
            refine ⟨_, rfl, ?_⟩
            refine Ow.ifd (fun h45 => ?_) (fun h45 => ?_)
            · exact kont _ h41
            · exact ⟨_, rfl, h41, (by exact (List.getElem?_eq_some_iff.mp (by assumption)).1), trivial⟩
        · refine ⟨_, rfl, ?_⟩
          refine Or.inr (Or.inr (Or.inr (Or.inl ?_)))
          refine ⟨rfl, ?_⟩
          refine ⟨_, rfl, ?_⟩
          refine iteT ?_
          refine iteT ?_
          exact kont _ h41
      · rintro _ Hn_10 ⟨_, rfl, h46, h47, _⟩
        exact (Ow.mix_end h47 : False).elim
    · obtain ⟨width, thing, ps, u, z, rest, rfl, c0, c1, c2, c3, kont⟩ := h
      have p32_width := Ow.pow2_le32 (w := width) (by omega)
      have p0_width := Ow.p2 width.toNat
      refine ⟨_, rfl, ?_⟩
      refine ⟨_, rfl, (by first | assumption | exact (by assumption : Ow.Lng _ _).1 | exact Or.inr (Ow.mulx (a := 1280) (b := 1280) (by assumption) (by assumption) (by decide)) | assumption | exact Ow.divw64 (by omega) (by omega) | exact Ow.mul0 ⟨by omega, by omega⟩ | exact Ow.mul1 ⟨by omega, by omega⟩ | exact Ow.shl0 (by omega) (by omega) (by omega) | exact ⟨by omega, by omega⟩ | exact ⟨by omega, by omega, by omega⟩ | omega | (simp only [List.length_append, List.length_cons, List.length_nil]; omega) | (subst_vars; omega)), (by first | assumption | exact (by assumption : Ow.Lng _ _).1 | exact Or.inr (Ow.mulx (a := 1280) (b := 1280) (by assumption) (by assumption) (by decide)) | assumption | exact Ow.divw64 (by omega) (by omega) | exact Ow.mul0 ⟨by omega, by omega⟩ | exact Ow.mul1 ⟨by omega, by omega⟩ | exact Ow.shl0 (by omega) (by omega) (by omega) | exact ⟨by omega, by omega⟩ | exact ⟨by omega, by omega, by omega⟩ | omega | (simp only [List.length_append, List.length_cons, List.length_nil]; omega) | (subst_vars; omega)), ?_⟩
      refine ⟨_, rfl, ?_⟩
      refine ⟨_, _, _, _, true, rfl, .ty _, .base (.lst c2), kit_ty (by decide +kernel), ?_⟩
      refine ⟨_, rfl, ?_⟩
      refine iteF ?_
      refine ⟨_, rfl, ?_⟩
      refine ⟨_, rfl, ⟨_, (SqL.of c2)⟩, ?_⟩
      refine for_list (K := K) (a := thing) (xs := (ps.map V.int ++ V.ref u :: rest)) (fun ixv σ2 H2 => ∃ (v_2 : Option V), σ2 = [some (.int (width)), some (.ref thing), v_2] ∧ Same H H2 ∧ (ixv ≤ ps.length) ∧ True) ⟨_, rfl, (Same.refl _), (by exact Nat.zero_le _), trivial⟩ (fun i σ2 H2 _ hz => ?_) ?_ ?_
      · obtain ⟨_, rfl, h48, h49, _⟩ := hz
        exact (SqL.of (h48 _ _ c2))
      · rintro i_6 xit _ Hn_11 h50 ⟨_, rfl, h51, h52, _⟩
        rcases Ow.mix_get h52 h50 with ⟨word_6, rfl, h_word_6⟩ | ⟨rfl, h53⟩
        · refine ⟨_, rfl, ?_⟩
          refine Or.inl ?_
          refine ⟨_, rfl, ?_⟩
          refine ⟨_, rfl, ?_⟩
          refine iteF ?_
          refine ⟨_, rfl, ?_⟩
          refine ⟨_, _, rfl, rfl, ?_⟩
          refine ⟨_, rfl, ?_⟩
          refine Ow.ifd (fun h54 => ?_) (fun h54 => ?_)
          · refine iteT ?_
            exact kont _ h51
          · refine ⟨_, rfl, ?_⟩
            refine ⟨_, rfl, ?_⟩
            refine ⟨_, _, rfl, rfl, (by first | assumption | exact (by assumption : Ow.Lng _ _).1 | exact Or.inr (Ow.mulx (a := 1280) (b := 1280) (by assumption) (by assumption) (by decide)) | assumption | exact Ow.divw64 (by omega) (by omega) | exact Ow.mul0 ⟨by omega, by omega⟩ | exact Ow.mul1 ⟨by omega, by omega⟩ | exact Ow.shl0 (by omega) (by omega) (by omega) | exact ⟨by omega, by omega⟩ | exact ⟨by omega, by omega, by omega⟩ | omega | (simp only [List.length_append, List.length_cons, List.length_nil]; omega) | (subst_vars; omega)), fun q_6 h_q_6 => ?_⟩
            refine ⟨_, _, rfl, rfl, ?_⟩
            refine ⟨_, rfl, ?_⟩
            refine Ow.ifd (fun h55 => ?_) (fun h55 => ?_)
            · exact kont _ h51
            · exact ⟨_, rfl, h51, (by exact (List.getElem?_eq_some_iff.mp (by assumption)).1), trivial⟩
        · refine ⟨_, rfl, ?_⟩
          refine Or.inr (Or.inr (Or.inr (Or.inr (?_))))
          refine ⟨_, _, rfl, (h51 _ _ c3), ?_⟩
          refine ⟨_, rfl, ?_⟩
          refine iteT ?_
          refine iteT ?_
          exact kont _ h51
      · rintro _ Hn_12 ⟨_, rfl, h56, h57, _⟩
        exact (Ow.mix_end h57 : False).elim
    · obtain ⟨width, thing, xs, rfl, c0, c1, c2, kont⟩ := h
      have p32_width := Ow.pow2_le32 (w := width) (by omega)
      have p0_width := Ow.p2 width.toNat
      refine ⟨_, rfl, ?_⟩
      refine ⟨_, rfl, (by first | assumption | exact (by assumption : Ow.Lng _ _).1 | exact Or.inr (Ow.mulx (a := 1280) (b := 1280) (by assumption) (by assumption) (by decide)) | assumption | exact Ow.divw64 (by omega) (by omega) | exact Ow.mul0 ⟨by omega, by omega⟩ | exact Ow.mul1 ⟨by omega, by omega⟩ | exact Ow.shl0 (by omega) (by omega) (by omega) | exact ⟨by omega, by omega⟩ | exact ⟨by omega, by omega, by omega⟩ | omega | (simp only [List.length_append, List.length_cons, List.length_nil]; omega) | (subst_vars; omega)), (by first | assumption | exact (by assumption : Ow.Lng _ _).1 | exact Or.inr (Ow.mulx (a := 1280) (b := 1280) (by assumption) (by assumption) (by decide)) | assumption | exact Ow.divw64 (by omega) (by omega) | exact Ow.mul0 ⟨by omega, by omega⟩ | exact Ow.mul1 ⟨by omega, by omega⟩ | exact Ow.shl0 (by omega) (by omega) (by omega) | exact ⟨by omega, by omega⟩ | exact ⟨by omega, by omega, by omega⟩ | omega | (simp only [List.length_append, List.length_cons, List.length_nil]; omega) | (subst_vars; omega)), ?_⟩
      refine ⟨_, rfl, ?_⟩
      refine ⟨_, _, _, _, false, rfl, .ty _, .base (.tup c2), kit_ty (by decide +kernel), ?_⟩
      refine ⟨_, rfl, ?_⟩
      refine iteT ?_
      exact kont _ (Same.refl _)
    · obtain ⟨width, rfl, c0, c1, kont⟩ := h
      have p32_width := Ow.pow2_le32 (w := width) (by omega)
      have p0_width := Ow.p2 width.toNat
      refine ⟨_, rfl, ?_⟩
      refine ⟨_, rfl, (by first | assumption | exact (by assumption : Ow.Lng _ _).1 | exact Or.inr (Ow.mulx (a := 1280) (b := 1280) (by assumption) (by assumption) (by decide)) | assumption | exact Ow.divw64 (by omega) (by omega) | exact Ow.mul0 ⟨by omega, by omega⟩ | exact Ow.mul1 ⟨by omega, by omega⟩ | exact Ow.shl0 (by omega) (by omega) (by omega) | exact ⟨by omega, by omega⟩ | exact ⟨by omega, by omega, by omega⟩ | omega | (simp only [List.length_append, List.length_cons, List.length_nil]; omega) | (subst_vars; omega)), (by first | assumption | exact (by assumption : Ow.Lng _ _).1 | exact Or.inr (Ow.mulx (a := 1280) (b := 1280) (by assumption) (by assumption) (by decide)) | assumption | exact Ow.divw64 (by omega) (by omega) | exact Ow.mul0 ⟨by omega, by omega⟩ | exact Ow.mul1 ⟨by omega, by omega⟩ | exact Ow.shl0 (by omega) (by omega) (by omega) | exact ⟨by omega, by omega⟩ | exact ⟨by omega, by omega, by omega⟩ | omega | (simp only [List.length_append, List.length_cons, List.length_nil]; omega) | (subst_vars; omega)), ?_⟩
      refine ⟨_, rfl, ?_⟩
      refine ⟨_, _, _, _, false, rfl, .ty _, .base (.non), kit_ty (by decide +kernel), ?_⟩
      refine ⟨_, rfl, ?_⟩
      refine iteT ?_
      exact kont _ (Same.refl _)
theorem ok_need_long (T : Tx K mg) : FnOk P w K mg base CX0 5 T.d_need_long.f T.d_need_long.fd ["width", "thing"] (sp_need_long T) := by
  refine T.d_need_long.F.ok sc_need_long (fun vs H Q E h => ?_) (fun cdv A outer s H vs Q E hr h => ?_)
  · obtain ⟨width, thing, xs, rfl, _⟩ := h
    rfl
  · obtain ⟨width, thing, xs, rfl, c0, c1, c2, c3, kont⟩ := h
    have p32_width := Ow.pow2_le32 (w := width) (by omega)
    have p0_width := Ow.p2 width.toNat
    refine ⟨_, (pss_cons (ps_if (pt_not (pt_val (pe_call (Ow.ok_is_long T) (hr.mono (by decide : 4 ≤ 4)) (by rfl) T.d_is_long.m T.d_is_long.F.kp T.d_is_long.b .nil pass0 (pa_cons (pv 0) (pa_cons (pv 1) pa_nil))))) (pss_one ps_never) pss_nil)
        (pss_one (ps_ret (pe_callTy call_list_of (by rfl) T.z_list (by decide +kernel) (pa_cons (pv 1) pa_nil))))), ?_⟩
    refine ⟨_, rfl, ?_⟩
    refine ⟨_, rfl, ?_⟩
    refine Or.inl ?_
    refine ⟨_, _, _, rfl, (by first | assumption | exact (by assumption : Ow.Lng _ _).1 | exact Or.inr (Ow.mulx (a := 1280) (b := 1280) (by assumption) (by assumption) (by decide)) | assumption | exact Ow.divw64 (by omega) (by omega) | exact Ow.mul0 ⟨by omega, by omega⟩ | exact Ow.mul1 ⟨by omega, by omega⟩ | exact Ow.shl0 (by omega) (by omega) (by omega) | exact ⟨by omega, by omega⟩ | exact ⟨by omega, by omega, by omega⟩ | omega | (simp only [List.length_append, List.length_cons, List.length_nil]; omega) | (subst_vars; omega)), (by first | assumption | exact (by assumption : Ow.Lng _ _).1 | exact Or.inr (Ow.mulx (a := 1280) (b := 1280) (by assumption) (by assumption) (by decide)) | assumption | exact Ow.divw64 (by omega) (by omega) | exact Ow.mul0 ⟨by omega, by omega⟩ | exact Ow.mul1 ⟨by omega, by omega⟩ | exact Ow.shl0 (by omega) (by omega) (by omega) | exact ⟨by omega, by omega⟩ | exact ⟨by omega, by omega, by omega⟩ | omega | (simp only [List.length_append, List.length_cons, List.length_nil]; omega) | (subst_vars; omega)), c2, (by first | assumption | exact (by assumption : Ow.Lng _ _).1 | exact Or.inr (Ow.mulx (a := 1280) (b := 1280) (by assumption) (by assumption) (by decide)) | assumption | exact Ow.divw64 (by omega) (by omega) | exact Ow.mul0 ⟨by omega, by omega⟩ | exact Ow.mul1 ⟨by omega, by omega⟩ | exact Ow.shl0 (by omega) (by omega) (by omega) | exact ⟨by omega, by omega⟩ | exact ⟨by omega, by omega, by omega⟩ | omega | (simp only [List.length_append, List.length_cons, List.length_nil]; omega) | (subst_vars; omega)), fun Hn h1 => ?_⟩
    refine ⟨_, rfl, ?_⟩
    refine iteF ?_
    refine ⟨_, rfl, ?_⟩
    refine ⟨_, _, rfl, .inl (SqL.of (h1 _ _ c2)), fun p h_p => ?_⟩
    exact kont _ _ (h1.trans (Ow.same_new h_p)) (Same.free h1 h_p) upd_same
theorem ok_number_of (T : Tx K mg) : FnOk P w K mg base CX0 6 T.d_number_of.f T.d_number_of.fd ["width", "one"] (sp_number_of T) := by
  refine T.d_number_of.F.ok sc_number_of (fun vs H Q E h => ?_) (fun cdv A outer s H vs Q E hr h => ?_)
  · obtain ⟨width, one, xs, rfl, _⟩ := h
    rfl
  · obtain ⟨width, one, xs, rfl, c0, c1, c2, c3, c4, kont⟩ := h
    have p32_width := Ow.pow2_le32 (w := width) (by omega)
    have p0_width := Ow.p2 width.toNat
    have hW : 16 ≤ (2 : Int) ^ width.toNat := Ow.pow2_mono (a := 4) (b := width.toNat) (by omega)
    refine ⟨_, (pss_cons (ps_set (i := 2) sc_number_of.nd rfl (Or.inl rfl) pe_int)
        (pss_cons (ps_for PassesOwn.never rfl (pi_list (pe_revL (pe_call (Ow.ok_need_long T) (hr.mono (by decide : 5 ≤ 5)) (by rfl) T.d_need_long.m T.d_need_long.F.kp T.d_need_long.b .nil pass0 (pa_cons (pv 0) (pa_cons (pv 1) pa_nil))))) (pg_name (i := 3) sc_number_of.nd rfl (Or.inl rfl)) (pss_one (ps_set (i := 2) sc_number_of.nd rfl (Or.inl rfl) (pe_op Ow.op_bor (pe_op Ow.op_shlN (pv 2) (pv 0)) (pv 3)))))
        (pss_one (ps_ret (pv 2))))), ?_⟩
    refine ⟨_, rfl, ?_⟩
    refine ⟨_, rfl, ?_⟩
    refine ⟨_, _, _, rfl, (by first | assumption | exact (by assumption : Ow.Lng _ _).1 | exact Or.inr (Ow.mulx (a := 1280) (b := 1280) (by assumption) (by assumption) (by decide)) | assumption | exact Ow.divw64 (by omega) (by omega) | exact Ow.mul0 ⟨by omega, by omega⟩ | exact Ow.mul1 ⟨by omega, by omega⟩ | exact Ow.shl0 (by omega) (by omega) (by omega) | exact ⟨by omega, by omega⟩ | exact ⟨by omega, by omega, by omega⟩ | omega | (simp only [List.length_append, List.length_cons, List.length_nil]; omega) | (subst_vars; omega)), (by first | assumption | exact (by assumption : Ow.Lng _ _).1 | exact Or.inr (Ow.mulx (a := 1280) (b := 1280) (by assumption) (by assumption) (by decide)) | assumption | exact Ow.divw64 (by omega) (by omega) | exact Ow.mul0 ⟨by omega, by omega⟩ | exact Ow.mul1 ⟨by omega, by omega⟩ | exact Ow.shl0 (by omega) (by omega) (by omega) | exact ⟨by omega, by omega⟩ | exact ⟨by omega, by omega, by omega⟩ | omega | (simp only [List.length_append, List.length_cons, List.length_nil]; omega) | (subst_vars; omega)), c2, (by first | assumption | exact (by assumption : Ow.Lng _ _).1 | exact Or.inr (Ow.mulx (a := 1280) (b := 1280) (by assumption) (by assumption) (by decide)) | assumption | exact Ow.divw64 (by omega) (by omega) | exact Ow.mul0 ⟨by omega, by omega⟩ | exact Ow.mul1 ⟨by omega, by omega⟩ | exact Ow.shl0 (by omega) (by omega) (by omega) | exact ⟨by omega, by omega⟩ | exact ⟨by omega, by omega, by omega⟩ | omega | (simp only [List.length_append, List.length_cons, List.length_nil]; omega) | (subst_vars; omega)), fun p Hn h1 h2 h3 => ?_⟩
    refine ⟨_, _, rfl, (SqL.of h3), fun p_2 h_p_2 => ?_⟩
    refine ⟨_, rfl, ⟨_, (SqL.of (Ow.sl_rev (xs := xs)))⟩, ?_⟩
    refine for_list (K := K) (a := p_2) (xs := (xs.reverse.map V.int)) (fun ixv σ2 H2 => ∃ (n : Int) (v_3 : Option V), σ2 = [some (.int (width)), some (.ref one), some (.int (n)), v_3] ∧ Same H H2 ∧ H2 p_2 = some (.lst (xs.reverse.map V.int)) ∧ (n = Ow.val (2 ^ width.toNat) (List.take ixv xs.reverse).reverse) ∧ True) ⟨0, _, rfl, (h1.trans (Ow.same_new h_p_2)), (Ow.sl_rev (xs := xs)), (by rfl), trivial⟩ (fun i σ2 H2 _ hz => ?_) ?_ ?_
    · obtain ⟨n, _, rfl, h4, h5, h6, _⟩ := hz
      exact (SqL.of h5)
    · rintro i xit _ Hn_2 h7 ⟨n_2, _, rfl, h8, h9, h10, _⟩
      obtain ⟨word, rfl, h_word⟩ := Ow.ints_get (xs := xs.reverse) h7
      have hf0 := h10
      have hp := c3.1.rev.get h_word
      have hnn : 0 ≤ n_2 := by rw [hf0]; exact Ow.val_nn (by omega) ((c3.1.rev.take _).rev)
      have hzz : Ow.Sz 2560 n_2 := by rw [hf0]; exact Ow.val_sz 80 (by omega) (by omega) ((c3.1.rev.take _).rev) (by rw [List.length_reverse, List.length_take, List.length_reverse]; omega)
      refine ⟨_, rfl, ?_⟩
      refine ⟨_, rfl, ?_⟩
      refine ⟨_, _, rfl, rfl, (by exact Or.inr (Ow.shlz (a := 2560) (n := 40) hzz (by omega) (by omega) (by decide))), fun s h_s => ?_⟩
      refine ⟨_, rfl, ?_⟩
      refine ⟨_, _, rfl, rfl, (by rw [h_s]; exact Int.mul_nonneg hnn (Int.le_of_lt (Ow.p2 _))), (by exact hp.1), fun number h_number h0_number => ?_⟩
      exact ⟨number, _, rfl, h8, h9, (by (rw [Ow.rev_turn h_word]; exact Ow.num_turn hf0 (Ow.bor_add (n := width.toNat) (by rw [h_number, h_s]) hnn hp.1 hp.2))), trivial⟩
    · rintro _ Hn_3 ⟨n_3, _, rfl, h11, h12, h13, _⟩
      have hall := h13
      rw [List.length_map, List.take_length, List.reverse_reverse] at hall
      refine ⟨_, rfl, ?_⟩
      exact kont n_3 (by first | exact hall | (rw [hall]; exact Ow.val_nn (by omega) c3.1) | (rw [hall]; exact Ow.val_sz 80 (by omega) (by omega) c3.1 (by omega))) (by first | exact hall | (rw [hall]; exact Ow.val_nn (by omega) c3.1) | (rw [hall]; exact Ow.val_sz 80 (by omega) (by omega) c3.1 (by omega))) (by first | exact hall | (rw [hall]; exact Ow.val_nn (by omega) c3.1) | (rw [hall]; exact Ow.val_sz 80 (by omega) (by omega) c3.1 (by omega))) _ h11
theorem ok_l_whole (T : Tx K mg) : FnOk P w K mg base CX0 1 T.d_l_whole.f T.d_l_whole.fd ["_law_found"] (sp_l_whole T) := by
  refine T.d_l_whole.F.ok sc_l_whole (fun vs H Q E h => ?_) (fun cdv A outer s H vs Q E hr h => ?_)
  · obtain ⟨found, rfl, _⟩ := h
    rfl
  · obtain ⟨found, rfl, kont⟩ := h
    refine ⟨_, (pss_one (ps_ret (pe_and (pe_callB call_isi (by rfl) T.z_isinstance (by decide +kernel) (pa_cons (pv 0) (pa_cons (pe_bltn (v := .ty "int") (by rfl) T.z_int (by decide +kernel) rfl) pa_nil))) (pe_one (pe_not (pe_callB call_isi (by rfl) T.z_isinstance (by decide +kernel) (pa_cons (pv 0) (pa_cons (pe_bltn (v := .ty "bool") (by rfl) T.z_bool (by decide +kernel) rfl) pa_nil)))))))), ?_⟩
    refine ⟨_, rfl, ?_⟩
    refine ⟨_, _, _, _, true, rfl, .ty _, .base (.int _), kit_ty (by decide +kernel), ?_⟩
    refine ⟨_, rfl, ?_⟩
    refine iteT ?_
    refine ⟨_, rfl, ?_⟩
    refine ⟨_, _, _, _, false, rfl, .ty _, .base (.int _), kit_ty (by decide +kernel), ?_⟩
    refine ⟨_, rfl, ?_⟩
    exact kont
theorem ok_l_same (T : Tx K mg) : FnOk P w K mg base CX0 2 T.d_l_same.f T.d_l_same.fd ["_law_found", "_law_due"] (sp_l_same T) := by
  refine T.d_l_same.F.ok sc_l_same (fun vs H Q E h => ?_) (fun cdv A outer s H vs Q E hr h => ?_)
  · obtain ⟨found, due, xs, ys, rfl, _⟩ := h
    rfl
  · obtain ⟨found, due, xs, ys, rfl, c0, c1, c2, c3, kont⟩ := h
    refine ⟨_, (pss_cons (ps_if (PW.pt (pw_or (pt_not (pt_val (pe_callB call_isi (by rfl) T.z_isinstance (by decide +kernel) (pa_cons (pv 0) (pa_cons (pe_bltn (v := .ty "list") (by rfl) T.z_list (by decide +kernel) rfl) pa_nil))))) (pw_or1 (pt_cmpR op_ne (Ow.pe_nmi (pe_callB call_len_seq (by rfl) T.z_len (by decide +kernel) (pa_cons (pv 0) pa_nil))) (Ow.pe_nmi (pe_callB call_len_seq (by rfl) T.z_len (by decide +kernel) (pa_cons (pv 1) pa_nil))) (nomark _))))) (pss_one (ps_ret pe_bl)) pss_nil)
        (pss_cons (ps_for PassesOwn.never rfl (pi_range1 (by rfl) T.z_range (pa_cons (Ow.pe_nmi (pe_callB call_len_seq (by rfl) T.z_len (by decide +kernel) (pa_cons (pv 1) pa_nil))) pa_nil)) (pg_name (i := 2) sc_l_same.nd rfl (Or.inl rfl)) (pss_one (ps_if (PW.pt (pw_or (pt_not (pt_val (pe_call (Ow.ok_l_whole T) (hr.mono (by decide : 1 ≤ 1)) (by rfl) T.d_l_whole.m T.d_l_whole.F.kp T.d_l_whole.b .nil pass0 (pa_cons (pe_ix ix_list (pv 0) (pv 2) (fun _ _ => rfl)) pa_nil)))) (pw_or1 (pt_cmpR op_ne (pe_ix ix_list (pv 0) (pv 2) (fun _ _ => rfl)) (pe_ix ix_list (pv 1) (pv 2) (fun _ _ => rfl)) (nomark _))))) (pss_one (ps_ret pe_bl)) pss_nil)))
        (pss_one (ps_ret pe_bl)))), ?_⟩
    refine ⟨_, rfl, ?_⟩
    refine ⟨_, _, _, _, true, rfl, .ty _, .base (.lst c0), kit_ty (by decide +kernel), ?_⟩
    refine ⟨_, rfl, ?_⟩
    refine iteF ?_
    refine ⟨_, rfl, ?_⟩
    refine ⟨_, _, rfl, .inl (SqL.of c0), ?_⟩
    refine ⟨_, rfl, fun len h_len => ?_⟩
    rw [List.length_map] at h_len
    refine ⟨_, rfl, ?_⟩
    refine ⟨_, _, rfl, .inl (SqL.of c1), ?_⟩
    refine ⟨_, rfl, fun len_2 h_len_2 => ?_⟩
    rw [List.length_map] at h_len_2
    refine ⟨rfl, ?_⟩
    refine ⟨_, rfl, ?_⟩
    refine Ow.ifnei (fun h1 => ?_) (fun h1 => ?_)
    · exact ((by first | omega | (subst c2; omega) | (subst c2; exact absurd (Option.some.inj (h_it.symm.trans h_it_2)) (by assumption)) | (subst c2; exact absurd (Option.some.inj (h_it.symm.trans h_it_3)) (by assumption))) : False).elim
    · refine ⟨_, rfl, ?_⟩
      refine ⟨_, _, rfl, .inl (SqL.of c1), ?_⟩
      refine ⟨_, rfl, fun len_3 h_len_3 => ?_⟩
      rw [List.length_map] at h_len_3
      refine ⟨_, rfl, (by first | assumption | exact (by assumption : Ow.Lng _ _).1 | exact Or.inr (Ow.mulx (a := 1280) (b := 1280) (by assumption) (by assumption) (by decide)) | assumption | exact Ow.divw64 (by omega) (by omega) | exact Ow.mul0 ⟨by omega, by omega⟩ | exact Ow.mul1 ⟨by omega, by omega⟩ | exact Ow.shl0 (by omega) (by omega) (by omega) | exact ⟨by omega, by omega⟩ | exact ⟨by omega, by omega, by omega⟩ | omega | (simp only [List.length_append, List.length_cons, List.length_nil]; omega) | (subst_vars; omega)), (by first | assumption | exact (by assumption : Ow.Lng _ _).1 | exact Or.inr (Ow.mulx (a := 1280) (b := 1280) (by assumption) (by assumption) (by decide)) | assumption | exact Ow.divw64 (by omega) (by omega) | exact Ow.mul0 ⟨by omega, by omega⟩ | exact Ow.mul1 ⟨by omega, by omega⟩ | exact Ow.shl0 (by omega) (by omega) (by omega) | exact ⟨by omega, by omega⟩ | exact ⟨by omega, by omega, by omega⟩ | omega | (simp only [List.length_append, List.length_cons, List.length_nil]; omega) | (subst_vars; omega)), ?_⟩
      refine for_range (lo := 0) (fun i σ2 H2 => ∃ (v_2 : Option V), σ2 = [some (.ref found), some (.ref due), v_2] ∧ Same _ H2) ⟨_, rfl, Same.refl _⟩ ?_ ?_
      · rintro i _ Hn h3 ⟨_, rfl, h2⟩
        refine Ow.gturn (fun l_k h_l_k => ?_)
        refine ⟨_, rfl, ?_⟩
        refine ⟨_, rfl, ?_⟩
        refine Ow.ixn (xs := xs) (i := l_k) (SqL.of (h2 _ _ c0)) (by first | assumption | exact (by assumption : Ow.Lng _ _).1 | exact Or.inr (Ow.mulx (a := 1280) (b := 1280) (by assumption) (by assumption) (by decide)) | assumption | exact Ow.divw64 (by omega) (by omega) | exact Ow.mul0 ⟨by omega, by omega⟩ | exact Ow.mul1 ⟨by omega, by omega⟩ | exact Ow.shl0 (by omega) (by omega) (by omega) | exact ⟨by omega, by omega⟩ | exact ⟨by omega, by omega, by omega⟩ | omega | (simp only [List.length_append, List.length_cons, List.length_nil]; omega) | (subst_vars; omega)) (by first | omega | (subst c2; omega)) (fun it h_it => ?_)
        refine ⟨_, rfl, ?_⟩
        refine ⟨_, rfl, ?_⟩
        refine iteF ?_
        refine ⟨_, rfl, ?_⟩
        refine ⟨_, rfl, ?_⟩
        refine Ow.ixn (xs := xs) (i := l_k) (SqL.of (h2 _ _ c0)) (by first | assumption | exact (by assumption : Ow.Lng _ _).1 | exact Or.inr (Ow.mulx (a := 1280) (b := 1280) (by assumption) (by assumption) (by decide)) | assumption | exact Ow.divw64 (by omega) (by omega) | exact Ow.mul0 ⟨by omega, by omega⟩ | exact Ow.mul1 ⟨by omega, by omega⟩ | exact Ow.shl0 (by omega) (by omega) (by omega) | exact ⟨by omega, by omega⟩ | exact ⟨by omega, by omega, by omega⟩ | omega | (simp only [List.length_append, List.length_cons, List.length_nil]; omega) | (subst_vars; omega)) (by first | omega | (subst c2; omega)) (fun it_2 h_it_2 => ?_)
        obtain rfl : it = it_2 := Option.some.inj (h_it.symm.trans h_it_2)
        refine ⟨_, rfl, ?_⟩
        refine ⟨_, rfl, ?_⟩
        refine Ow.ixn (xs := ys) (i := l_k) (SqL.of (h2 _ _ c1)) (by first | assumption | exact (by assumption : Ow.Lng _ _).1 | exact Or.inr (Ow.mulx (a := 1280) (b := 1280) (by assumption) (by assumption) (by decide)) | assumption | exact Ow.divw64 (by omega) (by omega) | exact Ow.mul0 ⟨by omega, by omega⟩ | exact Ow.mul1 ⟨by omega, by omega⟩ | exact Ow.shl0 (by omega) (by omega) (by omega) | exact ⟨by omega, by omega⟩ | exact ⟨by omega, by omega, by omega⟩ | omega | (simp only [List.length_append, List.length_cons, List.length_nil]; omega) | (subst_vars; omega)) (by first | omega | (subst c2; omega)) (fun it_3 h_it_3 => ?_)
        refine ⟨rfl, ?_⟩
        refine ⟨_, rfl, ?_⟩
        refine Ow.ifnei (fun h4 => ?_) (fun h4 => ?_)
        · exact ((by first | omega | (subst c2; omega) | (subst c2; exact absurd (Option.some.inj (h_it.symm.trans h_it_2)) (by assumption)) | (subst c2; exact absurd (Option.some.inj (h_it.symm.trans h_it_3)) (by assumption))) : False).elim
        · exact ⟨_, rfl, h2⟩
      · rintro _ Hn_2 ⟨_, rfl, h5⟩
        exact kont _ h5
theorem ok_l_none (T : Tx K mg) : FnOk P w K mg base CX0 5 T.d_l_none.f T.d_l_none.fd ["_law_width", "_law_words", "_law_at"] (sp_l_none T) := by
  refine T.d_l_none.F.ok sc_l_none (fun vs H Q E h => ?_) (fun cdv A outer s H vs Q E hr h => ?_)
  · obtain ⟨width, words, pos, xs, rfl, _⟩ := h
    rfl
  · obtain ⟨width, words, pos, xs, rfl, c0, c1, c2, c3, c4, kont⟩ := h
    have p32_width := Ow.pow2_le32 (w := width) (by omega)
    have p0_width := Ow.p2 width.toNat
    have hW : 16 ≤ (2 : Int) ^ width.toNat := Ow.pow2_mono (a := 4) (b := width.toNat) (by omega)
    have hl1 : (xs ++ [1] : List Int).length = xs.length + 1 := by rw [List.length_append]; rfl
    refine ⟨_, (pss_cons (ps_set (i := 3) sc_l_none.nd rfl (Or.inl rfl) (pe_op Ow.op_shl1 pe_int (pv 0)))
        (pss_cons (ps_for PassesOwn.never rfl (pi_list (pe_lst (pa_cons (pv 3) (pa_cons (Ow.pe_lit (-1) (pe_op op_sub pe_int pe_int)) (pa_cons pe_bl (pa_cons pe_str (pa_cons pe_non (pa_cons (pe_lst (pa_cons pe_int pa_nil)) (pa_cons (pe_op op_add (pv 3) pe_int) pa_nil))))))))) (pg_name (i := 4) sc_l_none.nd rfl (Or.inl rfl)) (pss_cons (ps_set (i := 5) sc_l_none.nd rfl (Or.inl rfl) (pe_op op_cat (pe_callTy call_list_of (by rfl) T.z_list (by decide +kernel) (pa_cons (pv 1) pa_nil)) (pe_lst (pa_cons pe_int pa_nil))))
        (pss_cons (ps_asg (pv 4) (pg_sub (pv 5) (pe_op Ow.op_modN (pv 2) (Ow.pe_nmi (pe_callB call_len_seq (by rfl) T.z_len (by decide +kernel) (pa_cons (pv 5) pa_nil)))) set_list))
        (pss_one (ps_if (pt_cmpR op_notBl (pe_call (Ow.ok_is_long T) (hr.mono (by decide : 4 ≤ 4)) (by rfl) T.d_is_long.m T.d_is_long.F.kp T.d_is_long.b .nil pass0 (pa_cons (pv 0) (pa_cons (pv 5) pa_nil))) pe_bl (nomark _)) (pss_one (ps_ret pe_bl)) pss_nil)))))
        (pss_cons (ps_if (PW.pt (pw_or (pt_cmpR op_notBl (pe_call (Ow.ok_is_long T) (hr.mono (by decide : 4 ≤ 4)) (by rfl) T.d_is_long.m T.d_is_long.F.kp T.d_is_long.b .nil pass0 (pa_cons (pv 0) (pa_cons (pe_callTy call_tuple_of (by rfl) T.z_tuple (by decide +kernel) (pa_cons (pv 1) pa_nil)) pa_nil))) pe_bl (nomark _)) (pw_or1 (pt_cmpR op_notBl (pe_call (Ow.ok_is_long T) (hr.mono (by decide : 4 ≤ 4)) (by rfl) T.d_is_long.m T.d_is_long.F.kp T.d_is_long.b .nil pass0 (pa_cons (pv 0) (pa_cons pe_non pa_nil))) pe_bl (nomark _))))) (pss_one (ps_ret pe_bl)) pss_nil)
        (pss_one (ps_ret (pe_cmpR op_isBl (pe_call (Ow.ok_is_long T) (hr.mono (by decide : 4 ≤ 4)) (by rfl) T.d_is_long.m T.d_is_long.F.kp T.d_is_long.b .nil pass0 (pa_cons (pv 0) (pa_cons (pe_op op_cat (pv 1) (pe_lst (pa_cons pe_int pa_nil))) pa_nil))) pe_bl (nomark _))))))), ?_⟩
    refine ⟨_, rfl, ?_⟩
    refine ⟨_, rfl, rfl, (by first | assumption | exact (by assumption : Ow.Lng _ _).1 | exact Or.inr (Ow.mulx (a := 1280) (b := 1280) (by assumption) (by assumption) (by decide)) | assumption | exact Ow.divw64 (by omega) (by omega) | exact Ow.mul0 ⟨by omega, by omega⟩ | exact Ow.mul1 ⟨by omega, by omega⟩ | exact Ow.shl0 (by omega) (by omega) (by omega) | exact ⟨by omega, by omega⟩ | exact ⟨by omega, by omega, by omega⟩ | omega | (simp only [List.length_append, List.length_cons, List.length_nil]; omega) | (subst_vars; omega)), fun l_big h_l_big h0_l_big => ?_⟩
    refine ⟨_, rfl, ?_⟩
    refine ⟨_, _, rfl, rfl, ?_⟩
    refine ⟨by decide, ?_⟩
    refine ⟨by show 1 ≤ sizeLine; decide, fun p h_p => ?_⟩
    refine ⟨_, rfl, ?_⟩
    refine ⟨_, _, rfl, rfl, ?_⟩
    refine ⟨by show 7 ≤ sizeLine; decide, fun p_2 h_p_2 => ?_⟩
    refine ⟨_, rfl, ⟨_, (SqL.of upd_same)⟩, ?_⟩
    refine for_list (K := K) (a := p_2) (xs := [.int (l_big), .int (-1), .bl (true), .str ("1"), .non, .ref p, .int (l_big + 1)]) (fun ixv σ2 H2 => ∃ (v_4 : Option V) (v_5 : Option V), σ2 = [some (.int (width)), some (.ref words), some (.int (pos)), some (.int (l_big)), v_4, v_5] ∧ Same H H2 ∧ H2 p_2 = some (.lst [.int (l_big), .int (-1), .bl (true), .str ("1"), .non, .ref p, .int (l_big + 1)]) ∧ H2 p = some (.lst [.int (1)]) ∧ True) ⟨_, _, rfl, ((Ow.same_new h_p).trans (Ow.same_new h_p_2)), upd_same, (Ow.at_new h_p_2 upd_same), trivial⟩ (fun i σ2 H2 _ hz => ?_) ?_ ?_
    · obtain ⟨_, _, rfl, h1, h2, h3, _⟩ := hz
      exact (SqL.of h2)
    · rintro i xit _ Hn h4 ⟨_, _, rfl, h5, h6, h7, _⟩
      have h4 := List.mem_of_getElem? h4
      simp only [List.mem_cons, List.not_mem_nil, or_false] at h4
      rcases h4 with rfl | rfl | rfl | rfl | rfl | rfl | rfl
      · refine ⟨_, rfl, ?_⟩
        refine ⟨_, _, rfl, .inl (SqL.of (h5 _ _ c2)), fun p_3 h_p_3 => ?_⟩
        refine ⟨by show 1 ≤ sizeLine; decide, fun p_4 h_p_4 => ?_⟩
        refine ⟨_, _, _, _, rfl, rfl, (Ow.at_new h_p_4 upd_same), upd_same, Ow.szc (n := 4000) (xs := xs) (ys := [1]) (by simp only [List.length_take, List.length_cons, List.length_nil]; omega) (by decide), fun p_5 h_p_5 => ?_⟩
        refine ⟨_, rfl, ?_⟩
        refine ⟨_, rfl, ?_⟩
        refine ⟨_, rfl, ?_⟩
        refine ⟨_, rfl, ?_⟩
        refine ⟨_, _, rfl, .inl (SqL.of (Ow.cat_at (xs := xs) (ys := [1]))), ?_⟩
        refine ⟨_, rfl, fun len h_len => ?_⟩
        rw [List.length_map] at h_len
        refine ⟨_, _, rfl, rfl, (by omega), fun r h_r h0_r h1_r => ?_⟩
        refine ⟨_, _, _, r.toNat, rfl, rfl, (Ow.cat_at (xs := xs) (ys := [1])), Ow.ixN_int (by rw [List.length_map]; omega) (by omega), ?_⟩
        refine ⟨_, rfl, ?_⟩
        refine ⟨_, rfl, ?_⟩
        refine Or.inr (Or.inl ?_)
        refine ⟨_, _, _, rfl, (by first | assumption | exact Ow.bad_snoc | exact Ow.bad_set (by omega) (by omega)), (by first | assumption | exact Ow.bad_snoc | exact Ow.bad_set (by omega) (by omega)), (Ow.set_ints upd_same), (by first | assumption | exact Ow.bad_snoc | exact Ow.bad_set (by omega) (by omega)), fun Hn_2 h8 => ?_⟩
        refine ⟨_, _, rfl, rfl, ?_⟩
        refine ⟨_, rfl, ?_⟩
        refine iteF ?_
        exact ⟨_, _, rfl, ((Ow.same_mut (((h5.trans (Ow.same_new h_p_3)).trans (Ow.same_new h_p_4)).trans (Ow.same_new h_p_5)) (Same.free ((h5.trans (Ow.same_new h_p_3)).trans (Ow.same_new h_p_4)) h_p_5)).trans h8), (h8 _ _ (Ow.at_mut (ne_of_none (Ow.at_new h_p_4 (Ow.at_new h_p_3 h6)) h_p_5) (Ow.at_new h_p_5 (Ow.at_new h_p_4 (Ow.at_new h_p_3 h6))))), (h8 _ _ (Ow.at_mut (ne_of_none (Ow.at_new h_p_4 (Ow.at_new h_p_3 h7)) h_p_5) (Ow.at_new h_p_5 (Ow.at_new h_p_4 (Ow.at_new h_p_3 h7))))), trivial⟩
      · refine ⟨_, rfl, ?_⟩
        refine ⟨_, _, rfl, .inl (SqL.of (h5 _ _ c2)), fun p_6 h_p_6 => ?_⟩
        refine ⟨by show 1 ≤ sizeLine; decide, fun p_7 h_p_7 => ?_⟩
        refine ⟨_, _, _, _, rfl, rfl, (Ow.at_new h_p_7 upd_same), upd_same, Ow.szc (n := 4000) (xs := xs) (ys := [1]) (by simp only [List.length_take, List.length_cons, List.length_nil]; omega) (by decide), fun p_8 h_p_8 => ?_⟩
        refine ⟨_, rfl, ?_⟩
        refine ⟨_, rfl, ?_⟩
        refine ⟨_, rfl, ?_⟩
        refine ⟨_, rfl, ?_⟩
        refine ⟨_, _, rfl, .inl (SqL.of (Ow.cat_at (xs := xs) (ys := [1]))), ?_⟩
        refine ⟨_, rfl, fun len_2 h_len_2 => ?_⟩
        rw [List.length_map] at h_len_2
        refine ⟨_, _, rfl, rfl, (by omega), fun r_2 h_r_2 h0_r_2 h1_r_2 => ?_⟩
        refine ⟨_, _, _, r_2.toNat, rfl, rfl, (Ow.cat_at (xs := xs) (ys := [1])), Ow.ixN_int (by rw [List.length_map]; omega) (by omega), ?_⟩
        refine ⟨_, rfl, ?_⟩
        refine ⟨_, rfl, ?_⟩
        refine Or.inr (Or.inl ?_)
        refine ⟨_, _, _, rfl, (by first | assumption | exact Ow.bad_snoc | exact Ow.bad_set (by omega) (by omega)), (by first | assumption | exact Ow.bad_snoc | exact Ow.bad_set (by omega) (by omega)), (Ow.set_ints upd_same), (by first | assumption | exact Ow.bad_snoc | exact Ow.bad_set (by omega) (by omega)), fun Hn_3 h9 => ?_⟩
        refine ⟨_, _, rfl, rfl, ?_⟩
        refine ⟨_, rfl, ?_⟩
        refine iteF ?_
        exact ⟨_, _, rfl, ((Ow.same_mut (((h5.trans (Ow.same_new h_p_6)).trans (Ow.same_new h_p_7)).trans (Ow.same_new h_p_8)) (Same.free ((h5.trans (Ow.same_new h_p_6)).trans (Ow.same_new h_p_7)) h_p_8)).trans h9), (h9 _ _ (Ow.at_mut (ne_of_none (Ow.at_new h_p_7 (Ow.at_new h_p_6 h6)) h_p_8) (Ow.at_new h_p_8 (Ow.at_new h_p_7 (Ow.at_new h_p_6 h6))))), (h9 _ _ (Ow.at_mut (ne_of_none (Ow.at_new h_p_7 (Ow.at_new h_p_6 h7)) h_p_8) (Ow.at_new h_p_8 (Ow.at_new h_p_7 (Ow.at_new h_p_6 h7))))), trivial⟩
      · refine ⟨_, rfl, ?_⟩
        refine ⟨_, _, rfl, .inl (SqL.of (h5 _ _ c2)), fun p_9 h_p_9 => ?_⟩
        refine ⟨by show 1 ≤ sizeLine; decide, fun p_10 h_p_10 => ?_⟩
        refine ⟨_, _, _, _, rfl, rfl, (Ow.at_new h_p_10 upd_same), upd_same, Ow.szc (n := 4000) (xs := xs) (ys := [1]) (by simp only [List.length_take, List.length_cons, List.length_nil]; omega) (by decide), fun p_11 h_p_11 => ?_⟩
        refine ⟨_, rfl, ?_⟩
        refine ⟨_, rfl, ?_⟩
        refine ⟨_, rfl, ?_⟩
        refine ⟨_, rfl, ?_⟩
        refine ⟨_, _, rfl, .inl (SqL.of (Ow.cat_at (xs := xs) (ys := [1]))), ?_⟩
        refine ⟨_, rfl, fun len_3 h_len_3 => ?_⟩
        rw [List.length_map] at h_len_3
        refine ⟨_, _, rfl, rfl, (by omega), fun r_3 h_r_3 h0_r_3 h1_r_3 => ?_⟩
        refine ⟨_, _, _, r_3.toNat, rfl, rfl, (Ow.cat_at (xs := xs) (ys := [1])), Ow.ixN_int (by rw [List.length_map]; omega) (by omega), ?_⟩
        refine ⟨_, rfl, ?_⟩
        refine ⟨_, rfl, ?_⟩
        refine Or.inr (Or.inr (Or.inl ?_))
        refine ⟨_, _, ((((xs ++ [1])).take r_3.toNat)), true, (((((xs ++ [1])).drop (r_3.toNat + 1)).map V.int)), rfl, (by first | assumption | exact Ow.bad_snoc | exact Ow.bad_set (by omega) (by omega)), (by first | assumption | exact Ow.bad_snoc | exact Ow.bad_set (by omega) (by omega)), (Ow.set_mix (by omega) upd_same), fun Hn_4 h10 => ?_⟩
        refine ⟨_, _, rfl, rfl, ?_⟩
        refine ⟨_, rfl, ?_⟩
        refine iteF ?_
        exact ⟨_, _, rfl, ((Ow.same_mut (((h5.trans (Ow.same_new h_p_9)).trans (Ow.same_new h_p_10)).trans (Ow.same_new h_p_11)) (Same.free ((h5.trans (Ow.same_new h_p_9)).trans (Ow.same_new h_p_10)) h_p_11)).trans h10), (h10 _ _ (Ow.at_mut (ne_of_none (Ow.at_new h_p_10 (Ow.at_new h_p_9 h6)) h_p_11) (Ow.at_new h_p_11 (Ow.at_new h_p_10 (Ow.at_new h_p_9 h6))))), (h10 _ _ (Ow.at_mut (ne_of_none (Ow.at_new h_p_10 (Ow.at_new h_p_9 h7)) h_p_11) (Ow.at_new h_p_11 (Ow.at_new h_p_10 (Ow.at_new h_p_9 h7))))), trivial⟩
      · refine ⟨_, rfl, ?_⟩
        refine ⟨_, _, rfl, .inl (SqL.of (h5 _ _ c2)), fun p_12 h_p_12 => ?_⟩
        refine ⟨by show 1 ≤ sizeLine; decide, fun p_13 h_p_13 => ?_⟩
        refine ⟨_, _, _, _, rfl, rfl, (Ow.at_new h_p_13 upd_same), upd_same, Ow.szc (n := 4000) (xs := xs) (ys := [1]) (by simp only [List.length_take, List.length_cons, List.length_nil]; omega) (by decide), fun p_14 h_p_14 => ?_⟩
        refine ⟨_, rfl, ?_⟩
        refine ⟨_, rfl, ?_⟩
        refine ⟨_, rfl, ?_⟩
        refine ⟨_, rfl, ?_⟩
        refine ⟨_, _, rfl, .inl (SqL.of (Ow.cat_at (xs := xs) (ys := [1]))), ?_⟩
        refine ⟨_, rfl, fun len_4 h_len_4 => ?_⟩
        rw [List.length_map] at h_len_4
        refine ⟨_, _, rfl, rfl, (by omega), fun r_4 h_r_4 h0_r_4 h1_r_4 => ?_⟩
        refine ⟨_, _, _, r_4.toNat, rfl, rfl, (Ow.cat_at (xs := xs) (ys := [1])), Ow.ixN_int (by rw [List.length_map]; omega) (by omega), ?_⟩
        refine ⟨_, rfl, ?_⟩
        refine ⟨_, rfl, ?_⟩
        refine Or.inr (Or.inr (Or.inr (Or.inl ?_)))
        refine ⟨_, _, ((((xs ++ [1])).take r_4.toNat)), ("1"), (((((xs ++ [1])).drop (r_4.toNat + 1)).map V.int)), rfl, (by first | assumption | exact Ow.bad_snoc | exact Ow.bad_set (by omega) (by omega)), (by first | assumption | exact Ow.bad_snoc | exact Ow.bad_set (by omega) (by omega)), (Ow.set_mix (by omega) upd_same), fun Hn_5 h11 => ?_⟩
        refine ⟨_, _, rfl, rfl, ?_⟩
        refine ⟨_, rfl, ?_⟩
        refine iteF ?_
        exact ⟨_, _, rfl, ((Ow.same_mut (((h5.trans (Ow.same_new h_p_12)).trans (Ow.same_new h_p_13)).trans (Ow.same_new h_p_14)) (Same.free ((h5.trans (Ow.same_new h_p_12)).trans (Ow.same_new h_p_13)) h_p_14)).trans h11), (h11 _ _ (Ow.at_mut (ne_of_none (Ow.at_new h_p_13 (Ow.at_new h_p_12 h6)) h_p_14) (Ow.at_new h_p_14 (Ow.at_new h_p_13 (Ow.at_new h_p_12 h6))))), (h11 _ _ (Ow.at_mut (ne_of_none (Ow.at_new h_p_13 (Ow.at_new h_p_12 h7)) h_p_14) (Ow.at_new h_p_14 (Ow.at_new h_p_13 (Ow.at_new h_p_12 h7))))), trivial⟩
      · refine ⟨_, rfl, ?_⟩
        refine ⟨_, _, rfl, .inl (SqL.of (h5 _ _ c2)), fun p_15 h_p_15 => ?_⟩
        refine ⟨by show 1 ≤ sizeLine; decide, fun p_16 h_p_16 => ?_⟩
        refine ⟨_, _, _, _, rfl, rfl, (Ow.at_new h_p_16 upd_same), upd_same, Ow.szc (n := 4000) (xs := xs) (ys := [1]) (by simp only [List.length_take, List.length_cons, List.length_nil]; omega) (by decide), fun p_17 h_p_17 => ?_⟩
        refine ⟨_, rfl, ?_⟩
        refine ⟨_, rfl, ?_⟩
        refine ⟨_, rfl, ?_⟩
        refine ⟨_, rfl, ?_⟩
        refine ⟨_, _, rfl, .inl (SqL.of (Ow.cat_at (xs := xs) (ys := [1]))), ?_⟩
        refine ⟨_, rfl, fun len_5 h_len_5 => ?_⟩
        rw [List.length_map] at h_len_5
        refine ⟨_, _, rfl, rfl, (by omega), fun r_5 h_r_5 h0_r_5 h1_r_5 => ?_⟩
        refine ⟨_, _, _, r_5.toNat, rfl, rfl, (Ow.cat_at (xs := xs) (ys := [1])), Ow.ixN_int (by rw [List.length_map]; omega) (by omega), ?_⟩
        refine ⟨_, rfl, ?_⟩
        refine ⟨_, rfl, ?_⟩
        refine Or.inr (Or.inr (Or.inr (Or.inr (Or.inl ?_))))
        refine ⟨_, _, ((((xs ++ [1])).take r_5.toNat)), (((((xs ++ [1])).drop (r_5.toNat + 1)).map V.int)), rfl, (by first | assumption | exact Ow.bad_snoc | exact Ow.bad_set (by omega) (by omega)), (by first | assumption | exact Ow.bad_snoc | exact Ow.bad_set (by omega) (by omega)), (Ow.set_mix (by omega) upd_same), fun Hn_6 h12 => ?_⟩
        refine ⟨_, _, rfl, rfl, ?_⟩
        refine ⟨_, rfl, ?_⟩
        refine iteF ?_
        exact ⟨_, _, rfl, ((Ow.same_mut (((h5.trans (Ow.same_new h_p_15)).trans (Ow.same_new h_p_16)).trans (Ow.same_new h_p_17)) (Same.free ((h5.trans (Ow.same_new h_p_15)).trans (Ow.same_new h_p_16)) h_p_17)).trans h12), (h12 _ _ (Ow.at_mut (ne_of_none (Ow.at_new h_p_16 (Ow.at_new h_p_15 h6)) h_p_17) (Ow.at_new h_p_17 (Ow.at_new h_p_16 (Ow.at_new h_p_15 h6))))), (h12 _ _ (Ow.at_mut (ne_of_none (Ow.at_new h_p_16 (Ow.at_new h_p_15 h7)) h_p_17) (Ow.at_new h_p_17 (Ow.at_new h_p_16 (Ow.at_new h_p_15 h7))))), trivial⟩
      · refine ⟨_, rfl, ?_⟩
        refine ⟨_, _, rfl, .inl (SqL.of (h5 _ _ c2)), fun p_18 h_p_18 => ?_⟩
        refine ⟨by show 1 ≤ sizeLine; decide, fun p_19 h_p_19 => ?_⟩
        refine ⟨_, _, _, _, rfl, rfl, (Ow.at_new h_p_19 upd_same), upd_same, Ow.szc (n := 4000) (xs := xs) (ys := [1]) (by simp only [List.length_take, List.length_cons, List.length_nil]; omega) (by decide), fun p_20 h_p_20 => ?_⟩
        refine ⟨_, rfl, ?_⟩
        refine ⟨_, rfl, ?_⟩
        refine ⟨_, rfl, ?_⟩
        refine ⟨_, rfl, ?_⟩
        refine ⟨_, _, rfl, .inl (SqL.of (Ow.cat_at (xs := xs) (ys := [1]))), ?_⟩
        refine ⟨_, rfl, fun len_6 h_len_6 => ?_⟩
        rw [List.length_map] at h_len_6
        refine ⟨_, _, rfl, rfl, (by omega), fun r_6 h_r_6 h0_r_6 h1_r_6 => ?_⟩
        refine ⟨_, _, _, r_6.toNat, rfl, rfl, (Ow.cat_at (xs := xs) (ys := [1])), Ow.ixN_int (by rw [List.length_map]; omega) (by omega), ?_⟩
        refine ⟨_, rfl, ?_⟩
        refine ⟨_, rfl, ?_⟩
        refine Or.inr (Or.inr (Or.inr (Or.inr (Or.inr (Or.inl ?_)))))
        refine ⟨_, _, ((((xs ++ [1])).take r_6.toNat)), p, _, (((((xs ++ [1])).drop (r_6.toNat + 1)).map V.int)), rfl, (by first | assumption | exact Ow.bad_snoc | exact Ow.bad_set (by omega) (by omega)), (by first | assumption | exact Ow.bad_snoc | exact Ow.bad_set (by omega) (by omega)), (Ow.set_mix (by omega) upd_same), (Ow.at_mut (ne_of_none (Ow.at_new h_p_19 (Ow.at_new h_p_18 h7)) h_p_20) (Ow.at_new h_p_20 (Ow.at_new h_p_19 (Ow.at_new h_p_18 h7)))), fun Hn_7 h13 => ?_⟩
        refine ⟨_, _, rfl, rfl, ?_⟩
        refine ⟨_, rfl, ?_⟩
        refine iteF ?_
        exact ⟨_, _, rfl, ((Ow.same_mut (((h5.trans (Ow.same_new h_p_18)).trans (Ow.same_new h_p_19)).trans (Ow.same_new h_p_20)) (Same.free ((h5.trans (Ow.same_new h_p_18)).trans (Ow.same_new h_p_19)) h_p_20)).trans h13), (h13 _ _ (Ow.at_mut (ne_of_none (Ow.at_new h_p_19 (Ow.at_new h_p_18 h6)) h_p_20) (Ow.at_new h_p_20 (Ow.at_new h_p_19 (Ow.at_new h_p_18 h6))))), (h13 _ _ (Ow.at_mut (ne_of_none (Ow.at_new h_p_19 (Ow.at_new h_p_18 h7)) h_p_20) (Ow.at_new h_p_20 (Ow.at_new h_p_19 (Ow.at_new h_p_18 h7))))), trivial⟩
      · refine ⟨_, rfl, ?_⟩
        refine ⟨_, _, rfl, .inl (SqL.of (h5 _ _ c2)), fun p_21 h_p_21 => ?_⟩
        refine ⟨by show 1 ≤ sizeLine; decide, fun p_22 h_p_22 => ?_⟩
        refine ⟨_, _, _, _, rfl, rfl, (Ow.at_new h_p_22 upd_same), upd_same, Ow.szc (n := 4000) (xs := xs) (ys := [1]) (by simp only [List.length_take, List.length_cons, List.length_nil]; omega) (by decide), fun p_23 h_p_23 => ?_⟩
        refine ⟨_, rfl, ?_⟩
        refine ⟨_, rfl, ?_⟩
        refine ⟨_, rfl, ?_⟩
        refine ⟨_, rfl, ?_⟩
        refine ⟨_, _, rfl, .inl (SqL.of (Ow.cat_at (xs := xs) (ys := [1]))), ?_⟩
        refine ⟨_, rfl, fun len_7 h_len_7 => ?_⟩
        rw [List.length_map] at h_len_7
        refine ⟨_, _, rfl, rfl, (by omega), fun r_7 h_r_7 h0_r_7 h1_r_7 => ?_⟩
        refine ⟨_, _, _, r_7.toNat, rfl, rfl, (Ow.cat_at (xs := xs) (ys := [1])), Ow.ixN_int (by rw [List.length_map]; omega) (by omega), ?_⟩
        refine ⟨_, rfl, ?_⟩
        refine ⟨_, rfl, ?_⟩
        refine Or.inr (Or.inl ?_)
        refine ⟨_, _, _, rfl, (by first | assumption | exact Ow.bad_snoc | exact Ow.bad_set (by omega) (by omega)), (by first | assumption | exact Ow.bad_snoc | exact Ow.bad_set (by omega) (by omega)), (Ow.set_ints upd_same), (by first | assumption | exact Ow.bad_snoc | exact Ow.bad_set (by omega) (by omega)), fun Hn_8 h14 => ?_⟩
        refine ⟨_, _, rfl, rfl, ?_⟩
        refine ⟨_, rfl, ?_⟩
        refine iteF ?_
        exact ⟨_, _, rfl, ((Ow.same_mut (((h5.trans (Ow.same_new h_p_21)).trans (Ow.same_new h_p_22)).trans (Ow.same_new h_p_23)) (Same.free ((h5.trans (Ow.same_new h_p_21)).trans (Ow.same_new h_p_22)) h_p_23)).trans h14), (h14 _ _ (Ow.at_mut (ne_of_none (Ow.at_new h_p_22 (Ow.at_new h_p_21 h6)) h_p_23) (Ow.at_new h_p_23 (Ow.at_new h_p_22 (Ow.at_new h_p_21 h6))))), (h14 _ _ (Ow.at_mut (ne_of_none (Ow.at_new h_p_22 (Ow.at_new h_p_21 h7)) h_p_23) (Ow.at_new h_p_23 (Ow.at_new h_p_22 (Ow.at_new h_p_21 h7))))), trivial⟩
    · rintro _ Hn_9 ⟨_, _, rfl, h15, h16, h17, _⟩
      refine ⟨_, rfl, ?_⟩
      refine ⟨_, rfl, ?_⟩
      refine ⟨_, _, rfl, .inl ⟨(SqL.of (h15 _ _ c2)), fun p_24 h_p_24 => ?_⟩⟩
      refine Or.inr (Or.inr (Or.inr (Or.inr (Or.inr (Or.inr (Or.inl ?_))))))
      refine ⟨_, _, _, rfl, (by first | assumption | exact Ow.bad_snoc | exact Ow.bad_set (by omega) (by omega)), (by first | assumption | exact Ow.bad_snoc | exact Ow.bad_set (by omega) (by omega)), upd_same, fun Hn_10 h18 => ?_⟩
      refine ⟨_, _, rfl, rfl, ?_⟩
      refine ⟨_, rfl, ?_⟩
      refine iteF ?_
      refine ⟨_, rfl, ?_⟩
      refine Or.inr (Or.inr (Or.inr (Or.inr (Or.inr (Or.inr (Or.inr (?_)))))))
      refine ⟨_, rfl, (by first | assumption | exact Ow.bad_snoc | exact Ow.bad_set (by omega) (by omega)), (by first | assumption | exact Ow.bad_snoc | exact Ow.bad_set (by omega) (by omega)), fun Hn_11 h19 => ?_⟩
      refine ⟨_, _, rfl, rfl, ?_⟩
      refine ⟨_, rfl, ?_⟩
      refine iteF ?_
      refine ⟨_, rfl, ?_⟩
      refine ⟨_, rfl, ?_⟩
      refine ⟨by show 1 ≤ sizeLine; decide, fun p_25 h_p_25 => ?_⟩
      refine ⟨_, _, _, _, rfl, rfl, (Ow.at_new h_p_25 (h19 _ _ (h18 _ _ (Ow.at_new h_p_24 (h15 _ _ c2))))), upd_same, Ow.szc (n := 4000) (xs := xs) (ys := [0]) (by simp only [List.length_take, List.length_cons, List.length_nil]; omega) (by decide), fun p_26 h_p_26 => ?_⟩
      refine Or.inr (Or.inl ?_)
      refine ⟨_, _, _, rfl, (by first | assumption | exact Ow.bad_snoc | exact Ow.bad_set (by omega) (by omega)), (by first | assumption | exact Ow.bad_snoc | exact Ow.bad_set (by omega) (by omega)), (Ow.cat_at (xs := xs) (ys := [0])), (by first | assumption | exact Ow.bad_snoc | exact Ow.bad_set (by omega) (by omega)), fun Hn_12 h20 => ?_⟩
      refine ⟨_, _, rfl, rfl, ?_⟩
      exact kont _ ((((((h15.trans (Ow.same_new h_p_24)).trans h18).trans h19).trans (Ow.same_new h_p_25)).trans (Ow.same_new h_p_26)).trans h20)
theorem ok_law (T : Tx K mg) : FnOk P w K mg base CX0 7 T.d_law.f T.d_law.fd ["_law_script"] (sp_law K) := by
  refine T.d_law.F.ok sc_law (fun vs H Q E h => ?_) (fun cdv A outer s H vs Q E hr h => ?_)
  · obtain ⟨script, ns, rfl, _⟩ := h
    rfl
  · obtain ⟨script, ns, rfl, c0, c1, kont⟩ := h
    refine ⟨_, (pss_cons (ps_for PassesOwn.never rfl (pi_list (pe_op op_cat (pe_slice sl_list (pv 0) po_none (po_some pe_int)) (pe_lst (pa_cons (Ow.pe_nmi (pe_callB call_len_seq (by rfl) T.z_len (by decide +kernel) (pa_cons (pv 0) pa_nil))) pa_nil)))) (pg_name (i := 1) sc_law.nd rfl (Or.inl rfl)) (pss_cons (ps_asg (pe_call (Ow.ok_l_row T) (hr.mono (by decide : 2 ≤ 6)) (by rfl) T.d_l_row.m T.d_l_row.F.kp T.d_l_row.b .nil pass0 (pa_cons (pv 1) pa_nil)) (pg_tup rfl (pgs_cons (pg_name (i := 2) sc_law.nd rfl (Or.inl rfl)) (pgs_cons (pg_name (i := 3) sc_law.nd rfl (Or.inl rfl)) (pgs_cons (pg_name (i := 4) sc_law.nd rfl (Or.inl rfl)) pgs_nil)))))
        (pss_cons (ps_set (i := 5) sc_law.nd rfl (Or.inl rfl) (pe_call (Ow.ok_l_number T) (hr.mono (by decide : 1 ≤ 6)) (by rfl) T.d_l_number.m T.d_l_number.F.kp T.d_l_number.b .nil pass0 (pa_cons (pv 3) (pa_cons (pv 2) pa_nil))))
        (pss_cons (ps_set (i := 6) sc_law.nd rfl (Or.inl rfl) (pe_call (Ow.ok_long_of T) (hr.mono (by decide : 4 ≤ 6)) (by rfl) T.d_long_of.m T.d_long_of.F.kp T.d_long_of.b .nil pass0 (pa_cons (pv 2) (pa_cons (pv 5) pa_nil))))
        (pss_cons (ps_if (pt_not (pt_val (pe_call (Ow.ok_l_same T) (hr.mono (by decide : 2 ≤ 6)) (by rfl) T.d_l_same.m T.d_l_same.F.kp T.d_l_same.b .nil pass0 (pa_cons (pv 6) (pa_cons (pv 3) pa_nil))))) (pss_one (ps_ret pe_bl)) pss_nil)
        (pss_cons (ps_expr (pe_bm PySem.F.plainAttrs_list PySem.F.slot_list_append PySem.F.type_list_append mt_append (pv 6) (pa_cons pe_int pa_nil)))
        (pss_cons (ps_set (i := 7) sc_law.nd rfl (Or.inl rfl) (pe_callTy call_list_of (by rfl) T.z_list (by decide +kernel) (pa_cons (pv 3) pa_nil)))
        (pss_cons (ps_set (i := 8) sc_law.nd rfl (Or.inl rfl) (pe_call (Ow.ok_number_of T) (hr.mono (by decide : 6 ≤ 6)) (by rfl) T.d_number_of.m T.d_number_of.F.kp T.d_number_of.b .nil pass0 (pa_cons (pv 2) (pa_cons (pv 7) pa_nil))))
        (pss_cons (ps_if (PW.pt (pw_or (pt_not (pt_val (pe_call (Ow.ok_l_whole T) (hr.mono (by decide : 1 ≤ 6)) (by rfl) T.d_l_whole.m T.d_l_whole.F.kp T.d_l_whole.b .nil pass0 (pa_cons (pv 8) pa_nil)))) (pw_or (pt_cmpR op_ne (pv 8) (pv 5) (nomark _)) (pw_or1 (pt_not (pt_val (pe_call (Ow.ok_l_same T) (hr.mono (by decide : 2 ≤ 6)) (by rfl) T.d_l_same.m T.d_l_same.F.kp T.d_l_same.b .nil pass0 (pa_cons (pv 7) (pa_cons (pv 3) pa_nil))))))))) (pss_one (ps_ret pe_bl)) pss_nil)
        (pss_cons (ps_if (PW.pt (pw_or (pt_cmpR op_notBl (pe_call (Ow.ok_is_long T) (hr.mono (by decide : 4 ≤ 6)) (by rfl) T.d_is_long.m T.d_is_long.F.kp T.d_is_long.b .nil pass0 (pa_cons (pv 2) (pa_cons (pv 7) pa_nil))) pe_bl (nomark _)) (pw_or1 (pt_cmpR op_notBl (pe_call (Ow.ok_is_long T) (hr.mono (by decide : 4 ≤ 6)) (by rfl) T.d_is_long.m T.d_is_long.F.kp T.d_is_long.b .nil pass0 (pa_cons (pv 2) (pa_cons (pe_op op_cat (pv 3) (pe_lst (pa_cons pe_int pa_nil))) pa_nil))) pe_bl (nomark _))))) (pss_one (ps_ret pe_bl)) pss_nil)
        (pss_cons (ps_if (pt_not (pt_val (pe_call (Ow.ok_l_none T) (hr.mono (by decide : 5 ≤ 6)) (by rfl) T.d_l_none.m T.d_l_none.F.kp T.d_l_none.b .nil pass0 (pa_cons (pv 2) (pa_cons (pv 3) (pa_cons (pv 4) pa_nil)))))) (pss_one (ps_ret pe_bl)) pss_nil)
        (pss_cons (ps_expr (pe_bm PySem.F.plainAttrs_list PySem.F.slot_list_append PySem.F.type_list_append mt_append (pv 7) (pa_cons (Ow.pe_nmi (pe_op op_sub (pe_op Ow.op_shl1 pe_int (pv 2)) pe_int)) pa_nil)))
        (pss_cons (ps_if (pt_cmpR op_ne (pe_call (Ow.ok_number_of T) (hr.mono (by decide : 6 ≤ 6)) (by rfl) T.d_number_of.m T.d_number_of.F.kp T.d_number_of.b .nil pass0 (pa_cons (pv 2) (pa_cons (pv 7) pa_nil))) (pe_op op_add (pv 5) (pe_op Ow.op_shlN (pe_op op_sub (pe_op Ow.op_shl1 pe_int (pv 2)) pe_int) (pe_op Ow.op_mulN (pv 2) (Ow.pe_nmi (pe_callB call_len_seq (by rfl) T.z_len (by decide +kernel) (pa_cons (pv 3) pa_nil)))))) (nomark _)) (pss_one (ps_ret pe_bl)) pss_nil)
        (pss_one (ps_if (pt_not (pt_val (pe_call (Ow.ok_l_same T) (hr.mono (by decide : 2 ≤ 6)) (by rfl) T.d_l_same.m T.d_l_same.F.kp T.d_l_same.b .nil pass0 (pa_cons (pe_call (Ow.ok_long_of T) (hr.mono (by decide : 4 ≤ 6)) (by rfl) T.d_long_of.m T.d_long_of.F.kp T.d_long_of.b .nil pass0 (pa_cons (pv 2) (pa_cons (pv 5) pa_nil))) (pa_cons (pv 3) pa_nil))))) (pss_one (ps_ret pe_bl)) pss_nil)))))))))))))))
        (pss_one (ps_ret pe_bl))), ?_⟩
    refine ⟨_, rfl, ?_⟩
    refine ⟨_, rfl, ?_⟩
    refine ⟨_, _, rfl, c0, fun p h_p => ?_⟩
    refine ⟨_, rfl, ?_⟩
    refine ⟨_, _, rfl, .inl (Ow.seq (Ow.same_new h_p) c0), ?_⟩
    refine ⟨_, rfl, fun len h_len => ?_⟩
    rw [List.length_map] at h_len
    refine ⟨by show 1 ≤ sizeLine; decide, fun p_2 h_p_2 => ?_⟩
    refine ⟨_, _, _, _, rfl, rfl, (Ow.at_new h_p_2 (Ow.sl_take (xs := ns) (k := 6) (by decide))), upd_same, Ow.szc (n := 4000) (xs := (ns.take 6)) (ys := [len]) (by simp only [List.length_take, List.length_cons, List.length_nil]; omega) (by decide), fun p_3 h_p_3 => ?_⟩
    refine ⟨_, rfl, ⟨_, (SqL.of (Ow.cat_at (xs := (ns.take 6)) (ys := [len])))⟩, ?_⟩
    refine for_list (K := K) (a := p_3) (xs := (((ns.take 6) ++ [len]).map V.int)) (fun ixv σ2 H2 => ∃ (v_1 : Option V) (v_2 : Option V) (v_3 : Option V) (v_4 : Option V) (v_5 : Option V) (v_6 : Option V) (v_7 : Option V) (v_8 : Option V), σ2 = [some (.ref script), v_1, v_2, v_3, v_4, v_5, v_6, v_7, v_8] ∧ Same H H2 ∧ H2 p_3 = some (.lst (((ns.take 6) ++ [len]).map V.int)) ∧ True) ⟨_, _, _, _, _, _, _, _, rfl, (((Ow.same_new h_p).trans (Ow.same_new h_p_2)).trans (Ow.same_new h_p_3)), (Ow.cat_at (xs := (ns.take 6)) (ys := [len])), trivial⟩ (fun i σ2 H2 _ hz => ?_) ?_ ?_
    · obtain ⟨_, _, _, _, _, _, _, _, rfl, h1, h2, _⟩ := hz
      exact (SqL.of h2)
    · rintro i xit _ Hn h3 ⟨_, _, _, _, _, _, _, _, rfl, h4, h5, _⟩
      obtain ⟨l_cell, rfl, h_l_cell⟩ := Ow.ints_get (xs := ((ns.take 6) ++ [len])) h3
      refine ⟨_, rfl, ?_⟩
      refine ⟨_, rfl, fun width t xs h6 h7 h8 h9 p_4 q1 Hn_2 h10 h11 h13 h12 h14 => ?_⟩
      refine ⟨_, _, rfl, (SqT.of h12), rfl, ?_⟩
      refine ⟨_, _, rfl, ?_⟩
      refine ⟨_, _, rfl, ?_⟩
      refine ⟨_, _, rfl, ?_⟩
      refine ⟨rfl, ?_⟩
      have hW : 16 ≤ (2 : Int) ^ (width).toNat := Ow.pow2_mono (a := 4) (b := (width).toNat) (by omega)
      have hp32 := Ow.pow2_le32 (w := width) (by omega)
      refine ⟨_, rfl, ?_⟩
      refine ⟨_, rfl, ?_⟩
      refine ⟨_, _, _, rfl, h14, (by first | assumption | exact (by assumption : Ow.Lng _ _).1 | exact Or.inr (Ow.mulx (a := 1280) (b := 1280) (by assumption) (by assumption) (by decide)) | assumption | exact Ow.divw64 (by omega) (by omega) | exact Ow.mul0 ⟨by omega, by omega⟩ | exact Ow.mul1 ⟨by omega, by omega⟩ | exact Ow.shl0 (by omega) (by omega) (by omega) | exact ⟨by omega, by omega⟩ | exact ⟨by omega, by omega, by omega⟩ | omega | (simp only [List.length_append, List.length_cons, List.length_nil]; omega) | (subst_vars; omega)), (by first | assumption | exact (by assumption : Ow.Lng _ _).1 | exact Or.inr (Ow.mulx (a := 1280) (b := 1280) (by assumption) (by assumption) (by decide)) | assumption | exact Ow.divw64 (by omega) (by omega) | exact Ow.mul0 ⟨by omega, by omega⟩ | exact Ow.mul1 ⟨by omega, by omega⟩ | exact Ow.shl0 (by omega) (by omega) (by omega) | exact ⟨by omega, by omega⟩ | exact ⟨by omega, by omega, by omega⟩ | omega | (simp only [List.length_append, List.length_cons, List.length_nil]; omega) | (subst_vars; omega)), (by first | assumption | exact (by assumption : Ow.Lng _ _).1 | exact Or.inr (Ow.mulx (a := 1280) (b := 1280) (by assumption) (by assumption) (by decide)) | assumption | exact Ow.divw64 (by omega) (by omega) | exact Ow.mul0 ⟨by omega, by omega⟩ | exact Ow.mul1 ⟨by omega, by omega⟩ | exact Ow.shl0 (by omega) (by omega) (by omega) | exact ⟨by omega, by omega⟩ | exact ⟨by omega, by omega, by omega⟩ | omega | (simp only [List.length_append, List.length_cons, List.length_nil]; omega) | (subst_vars; omega)), (by first | assumption | exact (by assumption : Ow.Lng _ _).1 | exact Or.inr (Ow.mulx (a := 1280) (b := 1280) (by assumption) (by assumption) (by decide)) | assumption | exact Ow.divw64 (by omega) (by omega) | exact Ow.mul0 ⟨by omega, by omega⟩ | exact Ow.mul1 ⟨by omega, by omega⟩ | exact Ow.shl0 (by omega) (by omega) (by omega) | exact ⟨by omega, by omega⟩ | exact ⟨by omega, by omega, by omega⟩ | omega | (simp only [List.length_append, List.length_cons, List.length_nil]; omega) | (subst_vars; omega)), fun l_number_here h15 h16 h17 Hn_3 h18 => ?_⟩
      refine ⟨_, rfl, ?_⟩
      refine ⟨_, rfl, ?_⟩
      refine ⟨_, _, rfl, (by first | assumption | exact (by assumption : Ow.Lng _ _).1 | exact Or.inr (Ow.mulx (a := 1280) (b := 1280) (by assumption) (by assumption) (by decide)) | assumption | exact Ow.divw64 (by omega) (by omega) | exact Ow.mul0 ⟨by omega, by omega⟩ | exact Ow.mul1 ⟨by omega, by omega⟩ | exact Ow.shl0 (by omega) (by omega) (by omega) | exact ⟨by omega, by omega⟩ | exact ⟨by omega, by omega, by omega⟩ | omega | (simp only [List.length_append, List.length_cons, List.length_nil]; omega) | (subst_vars; omega) | exact Ow.Sz.mono (a := 2560) (by assumption) (by decide)), (by first | assumption | exact (by assumption : Ow.Lng _ _).1 | exact Or.inr (Ow.mulx (a := 1280) (b := 1280) (by assumption) (by assumption) (by decide)) | assumption | exact Ow.divw64 (by omega) (by omega) | exact Ow.mul0 ⟨by omega, by omega⟩ | exact Ow.mul1 ⟨by omega, by omega⟩ | exact Ow.shl0 (by omega) (by omega) (by omega) | exact ⟨by omega, by omega⟩ | exact ⟨by omega, by omega, by omega⟩ | omega | (simp only [List.length_append, List.length_cons, List.length_nil]; omega) | (subst_vars; omega) | exact Ow.Sz.mono (a := 2560) (by assumption) (by decide)), (by first | assumption | exact (by assumption : Ow.Lng _ _).1 | exact Or.inr (Ow.mulx (a := 1280) (b := 1280) (by assumption) (by assumption) (by decide)) | assumption | exact Ow.divw64 (by omega) (by omega) | exact Ow.mul0 ⟨by omega, by omega⟩ | exact Ow.mul1 ⟨by omega, by omega⟩ | exact Ow.shl0 (by omega) (by omega) (by omega) | exact ⟨by omega, by omega⟩ | exact ⟨by omega, by omega, by omega⟩ | omega | (simp only [List.length_append, List.length_cons, List.length_nil]; omega) | (subst_vars; omega) | exact Ow.Sz.mono (a := 2560) (by assumption) (by decide)), (by first | assumption | exact (by assumption : Ow.Lng _ _).1 | exact Or.inr (Ow.mulx (a := 1280) (b := 1280) (by assumption) (by assumption) (by decide)) | assumption | exact Ow.divw64 (by omega) (by omega) | exact Ow.mul0 ⟨by omega, by omega⟩ | exact Ow.mul1 ⟨by omega, by omega⟩ | exact Ow.shl0 (by omega) (by omega) (by omega) | exact ⟨by omega, by omega⟩ | exact ⟨by omega, by omega, by omega⟩ | omega | (simp only [List.length_append, List.length_cons, List.length_nil]; omega) | (subst_vars; omega) | exact Ow.Sz.mono (a := 2560) (by assumption) (by decide)), fun ys h19 h20 h21 p_5 Hn_4 h22 h23 h24 => ?_⟩
      refine ⟨_, rfl, ?_⟩
      refine ⟨_, rfl, ?_⟩
      refine ⟨_, _, _, _, rfl, h24, (h22 _ _ (h18 _ _ h14)), (by first | assumption | exact (by assumption : Ow.Lng _ _).1 | exact Or.inr (Ow.mulx (a := 1280) (b := 1280) (by assumption) (by assumption) (by decide)) | assumption | exact Ow.divw64 (by omega) (by omega) | exact Ow.mul0 ⟨by omega, by omega⟩ | exact Ow.mul1 ⟨by omega, by omega⟩ | exact Ow.shl0 (by omega) (by omega) (by omega) | exact ⟨by omega, by omega⟩ | exact ⟨by omega, by omega, by omega⟩ | omega | (simp only [List.length_append, List.length_cons, List.length_nil]; omega) | (subst_vars; omega) | rfl | (subst_vars; first | exact Ow.Lng.uniq (B := 2 ^ width.toNat) (by omega) (by assumption) (by assumption) (by assumption) | exact Ow.Lng.uniq (B := 2 ^ width.toNat) (by omega) (by assumption) (by assumption) (Eq.trans (by assumption) (Eq.symm (by assumption))) | exact Ow.Lng.uniq (B := 2 ^ width.toNat) (by omega) (by assumption) (by assumption) (Eq.trans (by assumption) ((Int.mul_comm _ _).trans (Eq.symm (by assumption)))))), (by first | assumption | exact (by assumption : Ow.Lng _ _).1 | exact Or.inr (Ow.mulx (a := 1280) (b := 1280) (by assumption) (by assumption) (by decide)) | assumption | exact Ow.divw64 (by omega) (by omega) | exact Ow.mul0 ⟨by omega, by omega⟩ | exact Ow.mul1 ⟨by omega, by omega⟩ | exact Ow.shl0 (by omega) (by omega) (by omega) | exact ⟨by omega, by omega⟩ | exact ⟨by omega, by omega, by omega⟩ | omega | (simp only [List.length_append, List.length_cons, List.length_nil]; omega) | (subst_vars; omega) | rfl | (subst_vars; first | exact Ow.Lng.uniq (B := 2 ^ width.toNat) (by omega) (by assumption) (by assumption) (by assumption) | exact Ow.Lng.uniq (B := 2 ^ width.toNat) (by omega) (by assumption) (by assumption) (Eq.trans (by assumption) (Eq.symm (by assumption))) | exact Ow.Lng.uniq (B := 2 ^ width.toNat) (by omega) (by assumption) (by assumption) (Eq.trans (by assumption) ((Int.mul_comm _ _).trans (Eq.symm (by assumption)))))), fun Hn_5 h25 => ?_⟩
      refine ⟨_, rfl, ?_⟩
      refine iteF ?_
      refine ⟨_, rfl, ?_⟩
      refine ⟨.inl ⟨rfl, _, (SqL.of (h25 _ _ h24))⟩, ?_⟩
      refine ⟨_, _, _, rfl, rfl, (h25 _ _ h24), (Ow.szl (by rw [List.length_map]; first | assumption | exact (by assumption : Ow.Lng _ _).1 | exact Or.inr (Ow.mulx (a := 1280) (b := 1280) (by assumption) (by assumption) (by decide)) | assumption | exact Ow.divw64 (by omega) (by omega) | exact Ow.mul0 ⟨by omega, by omega⟩ | exact Ow.mul1 ⟨by omega, by omega⟩ | exact Ow.shl0 (by omega) (by omega) (by omega) | exact ⟨by omega, by omega⟩ | exact ⟨by omega, by omega, by omega⟩ | omega | (simp only [List.length_append, List.length_cons, List.length_nil]; omega) | (subst_vars; omega))), ?_⟩
      refine ⟨_, rfl, ?_⟩
      refine ⟨_, _, rfl, .inl (SqL.of (Ow.at_mut (ne_of_none (h18 _ _ h14) h23) (h25 _ _ (h22 _ _ (h18 _ _ h14))))), fun p_6 h_p_6 => ?_⟩
      refine ⟨_, rfl, ?_⟩
      refine ⟨_, rfl, ?_⟩
      refine ⟨_, _, _, rfl, (by first | assumption | exact (by assumption : Ow.Lng _ _).1 | exact Or.inr (Ow.mulx (a := 1280) (b := 1280) (by assumption) (by assumption) (by decide)) | assumption | exact Ow.divw64 (by omega) (by omega) | exact Ow.mul0 ⟨by omega, by omega⟩ | exact Ow.mul1 ⟨by omega, by omega⟩ | exact Ow.shl0 (by omega) (by omega) (by omega) | exact ⟨by omega, by omega⟩ | exact ⟨by omega, by omega, by omega⟩ | omega | (simp only [List.length_append, List.length_cons, List.length_nil]; omega) | (subst_vars; omega) | exact Ow.lng_snoc (by assumption) (by omega) (by omega) | (rw [List.length_append, List.length_singleton]; omega)), (by first | assumption | exact (by assumption : Ow.Lng _ _).1 | exact Or.inr (Ow.mulx (a := 1280) (b := 1280) (by assumption) (by assumption) (by decide)) | assumption | exact Ow.divw64 (by omega) (by omega) | exact Ow.mul0 ⟨by omega, by omega⟩ | exact Ow.mul1 ⟨by omega, by omega⟩ | exact Ow.shl0 (by omega) (by omega) (by omega) | exact ⟨by omega, by omega⟩ | exact ⟨by omega, by omega, by omega⟩ | omega | (simp only [List.length_append, List.length_cons, List.length_nil]; omega) | (subst_vars; omega) | exact Ow.lng_snoc (by assumption) (by omega) (by omega) | (rw [List.length_append, List.length_singleton]; omega)), upd_same, (by first | assumption | exact (by assumption : Ow.Lng _ _).1 | exact Or.inr (Ow.mulx (a := 1280) (b := 1280) (by assumption) (by assumption) (by decide)) | assumption | exact Ow.divw64 (by omega) (by omega) | exact Ow.mul0 ⟨by omega, by omega⟩ | exact Ow.mul1 ⟨by omega, by omega⟩ | exact Ow.shl0 (by omega) (by omega) (by omega) | exact ⟨by omega, by omega⟩ | exact ⟨by omega, by omega, by omega⟩ | omega | (simp only [List.length_append, List.length_cons, List.length_nil]; omega) | (subst_vars; omega) | exact Ow.lng_snoc (by assumption) (by omega) (by omega) | (rw [List.length_append, List.length_singleton]; omega)), (by first | assumption | exact (by assumption : Ow.Lng _ _).1 | exact Or.inr (Ow.mulx (a := 1280) (b := 1280) (by assumption) (by assumption) (by decide)) | assumption | exact Ow.divw64 (by omega) (by omega) | exact Ow.mul0 ⟨by omega, by omega⟩ | exact Ow.mul1 ⟨by omega, by omega⟩ | exact Ow.shl0 (by omega) (by omega) (by omega) | exact ⟨by omega, by omega⟩ | exact ⟨by omega, by omega, by omega⟩ | omega | (simp only [List.length_append, List.length_cons, List.length_nil]; omega) | (subst_vars; omega) | exact Ow.lng_snoc (by assumption) (by omega) (by omega) | (rw [List.length_append, List.length_singleton]; omega)), fun l_found h26 h27 h28 Hn_6 h29 => ?_⟩
      refine ⟨_, rfl, ?_⟩
      refine ⟨_, rfl, ?_⟩
      refine ⟨_, rfl, ?_⟩
      refine iteF ?_
      refine ⟨_, rfl, ?_⟩
      refine ⟨_, rfl, ?_⟩
      refine ⟨rfl, ?_⟩
      refine ⟨_, rfl, ?_⟩
      refine Ow.ifnei (fun h30 => ?_) (fun h30 => ?_)
      · refine iteT ?_
        exact ((by first | omega | (subst_vars; exact absurd (Ow.val_top (w := width) (xs := xs) (by omega) rfl) (by assumption))) : False).elim
      · refine ⟨_, rfl, ?_⟩
        refine ⟨_, rfl, ?_⟩
        refine ⟨_, _, _, _, rfl, (h29 _ _ upd_same), (h29 _ _ (Ow.at_new h_p_6 (Ow.at_mut (ne_of_none (h18 _ _ h14) h23) (h25 _ _ (h22 _ _ (h18 _ _ h14)))))), (by first | assumption | exact (by assumption : Ow.Lng _ _).1 | exact Or.inr (Ow.mulx (a := 1280) (b := 1280) (by assumption) (by assumption) (by decide)) | assumption | exact Ow.divw64 (by omega) (by omega) | exact Ow.mul0 ⟨by omega, by omega⟩ | exact Ow.mul1 ⟨by omega, by omega⟩ | exact Ow.shl0 (by omega) (by omega) (by omega) | exact ⟨by omega, by omega⟩ | exact ⟨by omega, by omega, by omega⟩ | omega | (simp only [List.length_append, List.length_cons, List.length_nil]; omega) | (subst_vars; omega) | rfl | (subst_vars; first | exact Ow.Lng.uniq (B := 2 ^ width.toNat) (by omega) (by assumption) (by assumption) (by assumption) | exact Ow.Lng.uniq (B := 2 ^ width.toNat) (by omega) (by assumption) (by assumption) (Eq.trans (by assumption) (Eq.symm (by assumption))) | exact Ow.Lng.uniq (B := 2 ^ width.toNat) (by omega) (by assumption) (by assumption) (Eq.trans (by assumption) ((Int.mul_comm _ _).trans (Eq.symm (by assumption)))))), (by first | assumption | exact (by assumption : Ow.Lng _ _).1 | exact Or.inr (Ow.mulx (a := 1280) (b := 1280) (by assumption) (by assumption) (by decide)) | assumption | exact Ow.divw64 (by omega) (by omega) | exact Ow.mul0 ⟨by omega, by omega⟩ | exact Ow.mul1 ⟨by omega, by omega⟩ | exact Ow.shl0 (by omega) (by omega) (by omega) | exact ⟨by omega, by omega⟩ | exact ⟨by omega, by omega, by omega⟩ | omega | (simp only [List.length_append, List.length_cons, List.length_nil]; omega) | (subst_vars; omega) | rfl | (subst_vars; first | exact Ow.Lng.uniq (B := 2 ^ width.toNat) (by omega) (by assumption) (by assumption) (by assumption) | exact Ow.Lng.uniq (B := 2 ^ width.toNat) (by omega) (by assumption) (by assumption) (Eq.trans (by assumption) (Eq.symm (by assumption))) | exact Ow.Lng.uniq (B := 2 ^ width.toNat) (by omega) (by assumption) (by assumption) (Eq.trans (by assumption) ((Int.mul_comm _ _).trans (Eq.symm (by assumption)))))), fun Hn_7 h31 => ?_⟩
        refine ⟨_, rfl, ?_⟩
        refine iteF ?_
        refine ⟨_, rfl, ?_⟩
        refine ⟨_, rfl, ?_⟩
        refine Or.inl ?_
        refine ⟨_, _, _, rfl, (by first | assumption | exact (by assumption : Ow.Lng _ _).1 | exact Or.inr (Ow.mulx (a := 1280) (b := 1280) (by assumption) (by assumption) (by decide)) | assumption | exact Ow.divw64 (by omega) (by omega) | exact Ow.mul0 ⟨by omega, by omega⟩ | exact Ow.mul1 ⟨by omega, by omega⟩ | exact Ow.shl0 (by omega) (by omega) (by omega) | exact ⟨by omega, by omega⟩ | exact ⟨by omega, by omega, by omega⟩ | omega | (simp only [List.length_append, List.length_cons, List.length_nil]; omega) | (subst_vars; omega) | exact Ow.lng_snoc (by assumption) (by omega) (by omega)), (by first | assumption | exact (by assumption : Ow.Lng _ _).1 | exact Or.inr (Ow.mulx (a := 1280) (b := 1280) (by assumption) (by assumption) (by decide)) | assumption | exact Ow.divw64 (by omega) (by omega) | exact Ow.mul0 ⟨by omega, by omega⟩ | exact Ow.mul1 ⟨by omega, by omega⟩ | exact Ow.shl0 (by omega) (by omega) (by omega) | exact ⟨by omega, by omega⟩ | exact ⟨by omega, by omega, by omega⟩ | omega | (simp only [List.length_append, List.length_cons, List.length_nil]; omega) | (subst_vars; omega) | exact Ow.lng_snoc (by assumption) (by omega) (by omega)), (h31 _ _ (h29 _ _ upd_same)), (by first | assumption | exact (by assumption : Ow.Lng _ _).1 | exact Or.inr (Ow.mulx (a := 1280) (b := 1280) (by assumption) (by assumption) (by decide)) | assumption | exact Ow.divw64 (by omega) (by omega) | exact Ow.mul0 ⟨by omega, by omega⟩ | exact Ow.mul1 ⟨by omega, by omega⟩ | exact Ow.shl0 (by omega) (by omega) (by omega) | exact ⟨by omega, by omega⟩ | exact ⟨by omega, by omega, by omega⟩ | omega | (simp only [List.length_append, List.length_cons, List.length_nil]; omega) | (subst_vars; omega) | exact Ow.lng_snoc (by assumption) (by omega) (by omega)), fun Hn_8 h32 => ?_⟩
        refine ⟨_, _, rfl, rfl, ?_⟩
        refine ⟨_, rfl, ?_⟩
        refine iteF ?_
        refine ⟨_, rfl, ?_⟩
        refine ⟨_, rfl, ?_⟩
        refine ⟨by show 1 ≤ sizeLine; decide, fun p_7 h_p_7 => ?_⟩
        refine ⟨_, _, _, _, rfl, rfl, (Ow.at_new h_p_7 (h32 _ _ (h31 _ _ (h29 _ _ (Ow.at_new h_p_6 (Ow.at_mut (ne_of_none (h18 _ _ h14) h23) (h25 _ _ (h22 _ _ (h18 _ _ h14))))))))), upd_same, Ow.szc (n := 4000) (xs := xs) (ys := [1]) (by simp only [List.length_take, List.length_cons, List.length_nil]; omega) (by decide), fun p_8 h_p_8 => ?_⟩
        refine Or.inl ?_
        refine ⟨_, _, _, rfl, (by first | assumption | exact (by assumption : Ow.Lng _ _).1 | exact Or.inr (Ow.mulx (a := 1280) (b := 1280) (by assumption) (by assumption) (by decide)) | assumption | exact Ow.divw64 (by omega) (by omega) | exact Ow.mul0 ⟨by omega, by omega⟩ | exact Ow.mul1 ⟨by omega, by omega⟩ | exact Ow.shl0 (by omega) (by omega) (by omega) | exact ⟨by omega, by omega⟩ | exact ⟨by omega, by omega, by omega⟩ | omega | (simp only [List.length_append, List.length_cons, List.length_nil]; omega) | (subst_vars; omega) | exact Ow.lng_snoc (by assumption) (by omega) (by omega)), (by first | assumption | exact (by assumption : Ow.Lng _ _).1 | exact Or.inr (Ow.mulx (a := 1280) (b := 1280) (by assumption) (by assumption) (by decide)) | assumption | exact Ow.divw64 (by omega) (by omega) | exact Ow.mul0 ⟨by omega, by omega⟩ | exact Ow.mul1 ⟨by omega, by omega⟩ | exact Ow.shl0 (by omega) (by omega) (by omega) | exact ⟨by omega, by omega⟩ | exact ⟨by omega, by omega, by omega⟩ | omega | (simp only [List.length_append, List.length_cons, List.length_nil]; omega) | (subst_vars; omega) | exact Ow.lng_snoc (by assumption) (by omega) (by omega)), (Ow.cat_at (xs := xs) (ys := [1])), (by first | assumption | exact (by assumption : Ow.Lng _ _).1 | exact Or.inr (Ow.mulx (a := 1280) (b := 1280) (by assumption) (by assumption) (by decide)) | assumption | exact Ow.divw64 (by omega) (by omega) | exact Ow.mul0 ⟨by omega, by omega⟩ | exact Ow.mul1 ⟨by omega, by omega⟩ | exact Ow.shl0 (by omega) (by omega) (by omega) | exact ⟨by omega, by omega⟩ | exact ⟨by omega, by omega, by omega⟩ | omega | (simp only [List.length_append, List.length_cons, List.length_nil]; omega) | (subst_vars; omega) | exact Ow.lng_snoc (by assumption) (by omega) (by omega)), fun Hn_9 h33 => ?_⟩
        refine ⟨_, _, rfl, rfl, ?_⟩
        refine ⟨_, rfl, ?_⟩
        refine iteF ?_
        refine ⟨_, rfl, ?_⟩
        refine ⟨_, rfl, ?_⟩
        refine ⟨_, rfl, ?_⟩
        refine ⟨_, _, _, _, rfl, (by first | assumption | exact (by assumption : Ow.Lng _ _).1 | exact Or.inr (Ow.mulx (a := 1280) (b := 1280) (by assumption) (by assumption) (by decide)) | assumption | exact Ow.divw64 (by omega) (by omega) | exact Ow.mul0 ⟨by omega, by omega⟩ | exact Ow.mul1 ⟨by omega, by omega⟩ | exact Ow.shl0 (by omega) (by omega) (by omega) | exact ⟨by omega, by omega⟩ | exact ⟨by omega, by omega, by omega⟩ | omega | (simp only [List.length_append, List.length_cons, List.length_nil]; omega) | (subst_vars; omega)), (by first | assumption | exact (by assumption : Ow.Lng _ _).1 | exact Or.inr (Ow.mulx (a := 1280) (b := 1280) (by assumption) (by assumption) (by decide)) | assumption | exact Ow.divw64 (by omega) (by omega) | exact Ow.mul0 ⟨by omega, by omega⟩ | exact Ow.mul1 ⟨by omega, by omega⟩ | exact Ow.shl0 (by omega) (by omega) (by omega) | exact ⟨by omega, by omega⟩ | exact ⟨by omega, by omega, by omega⟩ | omega | (simp only [List.length_append, List.length_cons, List.length_nil]; omega) | (subst_vars; omega)), (h33 _ _ (Ow.at_new h_p_8 (Ow.at_new h_p_7 (h32 _ _ (h31 _ _ (h29 _ _ (Ow.at_new h_p_6 (Ow.at_mut (ne_of_none (h18 _ _ h14) h23) (h25 _ _ (h22 _ _ (h18 _ _ h14))))))))))), (by first | assumption | exact (by assumption : Ow.Lng _ _).1 | exact Or.inr (Ow.mulx (a := 1280) (b := 1280) (by assumption) (by assumption) (by decide)) | assumption | exact Ow.divw64 (by omega) (by omega) | exact Ow.mul0 ⟨by omega, by omega⟩ | exact Ow.mul1 ⟨by omega, by omega⟩ | exact Ow.shl0 (by omega) (by omega) (by omega) | exact ⟨by omega, by omega⟩ | exact ⟨by omega, by omega, by omega⟩ | omega | (simp only [List.length_append, List.length_cons, List.length_nil]; omega) | (subst_vars; omega)), (by first | assumption | exact (by assumption : Ow.Lng _ _).1 | exact Or.inr (Ow.mulx (a := 1280) (b := 1280) (by assumption) (by assumption) (by decide)) | assumption | exact Ow.divw64 (by omega) (by omega) | exact Ow.mul0 ⟨by omega, by omega⟩ | exact Ow.mul1 ⟨by omega, by omega⟩ | exact Ow.shl0 (by omega) (by omega) (by omega) | exact ⟨by omega, by omega⟩ | exact ⟨by omega, by omega, by omega⟩ | omega | (simp only [List.length_append, List.length_cons, List.length_nil]; omega) | (subst_vars; omega)), fun Hn_10 h34 => ?_⟩
        refine ⟨_, rfl, ?_⟩
        refine iteF ?_
        refine ⟨_, rfl, ?_⟩
        refine ⟨.inl ⟨rfl, _, (SqL.of (h34 _ _ (h33 _ _ (Ow.at_new h_p_8 (Ow.at_new h_p_7 (h32 _ _ (h31 _ _ (h29 _ _ upd_same))))))))⟩, ?_⟩
        refine ⟨_, rfl, ?_⟩
        refine ⟨_, rfl, rfl, (by first | exact ⟨by omega, by omega⟩ | exact Ow.shl0 (by omega) (by omega) (by omega) | exact Or.inr (Ow.shlz (a := 33) (n := 1248) (by unfold Ow.Sz; omega) (by rw [h_m]; exact (Ow.mul_rng2 (by omega) (by omega) (by omega) (by omega)).1) (by rw [h_m]; exact (Ow.mul_rng2 (by omega) (by omega) (by omega) (by omega)).2) (by decide))), fun B h_B h0_B => ?_⟩
        refine ⟨_, _, rfl, rfl, ?_⟩
        refine ⟨_, rfl, fun ap h_ap => ?_⟩
        refine ⟨_, _, _, rfl, rfl, (h34 _ _ (h33 _ _ (Ow.at_new h_p_8 (Ow.at_new h_p_7 (h32 _ _ (h31 _ _ (h29 _ _ upd_same))))))), (Ow.szl (by rw [List.length_map]; first | assumption | exact (by assumption : Ow.Lng _ _).1 | exact Or.inr (Ow.mulx (a := 1280) (b := 1280) (by assumption) (by assumption) (by decide)) | assumption | exact Ow.divw64 (by omega) (by omega) | exact Ow.mul0 ⟨by omega, by omega⟩ | exact Ow.mul1 ⟨by omega, by omega⟩ | exact Ow.shl0 (by omega) (by omega) (by omega) | exact ⟨by omega, by omega⟩ | exact ⟨by omega, by omega, by omega⟩ | omega | (simp only [List.length_append, List.length_cons, List.length_nil]; omega) | (subst_vars; omega))), ?_⟩
        refine ⟨_, rfl, ?_⟩
        refine ⟨_, rfl, ?_⟩
        refine ⟨_, _, _, rfl, (by first | assumption | exact (by assumption : Ow.Lng _ _).1 | exact Or.inr (Ow.mulx (a := 1280) (b := 1280) (by assumption) (by assumption) (by decide)) | assumption | exact Ow.divw64 (by omega) (by omega) | exact Ow.mul0 ⟨by omega, by omega⟩ | exact Ow.mul1 ⟨by omega, by omega⟩ | exact Ow.shl0 (by omega) (by omega) (by omega) | exact ⟨by omega, by omega⟩ | exact ⟨by omega, by omega, by omega⟩ | omega | (simp only [List.length_append, List.length_cons, List.length_nil]; omega) | (subst_vars; omega) | exact Ow.lng_snoc (by assumption) (by omega) (by omega) | (rw [List.length_append, List.length_singleton]; omega)), (by first | assumption | exact (by assumption : Ow.Lng _ _).1 | exact Or.inr (Ow.mulx (a := 1280) (b := 1280) (by assumption) (by assumption) (by decide)) | assumption | exact Ow.divw64 (by omega) (by omega) | exact Ow.mul0 ⟨by omega, by omega⟩ | exact Ow.mul1 ⟨by omega, by omega⟩ | exact Ow.shl0 (by omega) (by omega) (by omega) | exact ⟨by omega, by omega⟩ | exact ⟨by omega, by omega, by omega⟩ | omega | (simp only [List.length_append, List.length_cons, List.length_nil]; omega) | (subst_vars; omega) | exact Ow.lng_snoc (by assumption) (by omega) (by omega) | (rw [List.length_append, List.length_singleton]; omega)), (Ow.ap_ints upd_same), (by first | assumption | exact (by assumption : Ow.Lng _ _).1 | exact Or.inr (Ow.mulx (a := 1280) (b := 1280) (by assumption) (by assumption) (by decide)) | assumption | exact Ow.divw64 (by omega) (by omega) | exact Ow.mul0 ⟨by omega, by omega⟩ | exact Ow.mul1 ⟨by omega, by omega⟩ | exact Ow.shl0 (by omega) (by omega) (by omega) | exact ⟨by omega, by omega⟩ | exact ⟨by omega, by omega, by omega⟩ | omega | (simp only [List.length_append, List.length_cons, List.length_nil]; omega) | (subst_vars; omega) | exact Ow.lng_snoc (by assumption) (by omega) (by omega) | (rw [List.length_append, List.length_singleton]; omega)), (by first | assumption | exact (by assumption : Ow.Lng _ _).1 | exact Or.inr (Ow.mulx (a := 1280) (b := 1280) (by assumption) (by assumption) (by decide)) | assumption | exact Ow.divw64 (by omega) (by omega) | exact Ow.mul0 ⟨by omega, by omega⟩ | exact Ow.mul1 ⟨by omega, by omega⟩ | exact Ow.shl0 (by omega) (by omega) (by omega) | exact ⟨by omega, by omega⟩ | exact ⟨by omega, by omega, by omega⟩ | omega | (simp only [List.length_append, List.length_cons, List.length_nil]; omega) | (subst_vars; omega) | exact Ow.lng_snoc (by assumption) (by omega) (by omega) | (rw [List.length_append, List.length_singleton]; omega)), fun t_2 h35 h36 h37 Hn_11 h38 => ?_⟩
        refine ⟨_, rfl, ?_⟩
        refine ⟨_, rfl, ?_⟩
        refine ⟨_, rfl, rfl, (by first | exact ⟨by omega, by omega⟩ | exact Ow.shl0 (by omega) (by omega) (by omega) | exact Or.inr (Ow.shlz (a := 33) (n := 1248) (by unfold Ow.Sz; omega) (by rw [h_m]; exact (Ow.mul_rng2 (by omega) (by omega) (by omega) (by omega)).1) (by rw [h_m]; exact (Ow.mul_rng2 (by omega) (by omega) (by omega) (by omega)).2) (by decide))), fun B_2 h_B_2 h0_B_2 => ?_⟩
        refine ⟨_, _, rfl, rfl, ?_⟩
        refine ⟨_, rfl, ?_⟩
        refine ⟨_, rfl, ?_⟩
        refine ⟨_, _, rfl, .inl (SqL.of (h38 _ _ (Ow.at_mut (ne_of_none (Ow.at_mut (ne_of_none (h18 _ _ h14) h23) (h25 _ _ (h22 _ _ (h18 _ _ h14)))) h_p_6) (h34 _ _ (h33 _ _ (Ow.at_new h_p_8 (Ow.at_new h_p_7 (h32 _ _ (h31 _ _ (h29 _ _ (Ow.at_new h_p_6 (Ow.at_mut (ne_of_none (h18 _ _ h14) h23) (h25 _ _ (h22 _ _ (h18 _ _ h14))))))))))))))), ?_⟩
        refine ⟨_, rfl, fun len_2 h_len_2 => ?_⟩
        rw [List.length_map] at h_len_2
        refine ⟨_, _, rfl, rfl, (by first | assumption | exact (by assumption : Ow.Lng _ _).1 | exact Or.inr (Ow.mulx (a := 1280) (b := 1280) (by assumption) (by assumption) (by decide)) | assumption | exact Ow.divw64 (by omega) (by omega) | exact Ow.mul0 ⟨by omega, by omega⟩ | exact Ow.mul1 ⟨by omega, by omega⟩ | exact Ow.shl0 (by omega) (by omega) (by omega) | exact ⟨by omega, by omega⟩ | exact ⟨by omega, by omega, by omega⟩ | omega | (simp only [List.length_append, List.length_cons, List.length_nil]; omega) | (subst_vars; omega)), fun m h_m => ?_⟩
        refine ⟨_, _, rfl, rfl, (by first | exact ⟨by omega, by omega⟩ | exact Ow.shl0 (by omega) (by omega) (by omega) | exact Or.inr (Ow.shlz (a := 33) (n := 1248) (by unfold Ow.Sz; omega) (by rw [h_m]; exact (Ow.mul_rng2 (by omega) (by omega) (by omega) (by omega)).1) (by rw [h_m]; exact (Ow.mul_rng2 (by omega) (by omega) (by omega) (by omega)).2) (by decide))), fun s h_s => ?_⟩
        refine ⟨_, _, rfl, rfl, ?_⟩
        refine ⟨rfl, ?_⟩
        refine ⟨_, rfl, ?_⟩
        refine Ow.ifnei (fun h39 => ?_) (fun h39 => ?_)
        · exact ((by first | omega | (subst_vars; exact absurd (Ow.val_top (w := width) (xs := xs) (by omega) rfl) (by assumption))) : False).elim
        · refine ⟨_, rfl, ?_⟩
          refine ⟨_, rfl, ?_⟩
          refine ⟨_, _, rfl, (by first | assumption | exact (by assumption : Ow.Lng _ _).1 | exact Or.inr (Ow.mulx (a := 1280) (b := 1280) (by assumption) (by assumption) (by decide)) | assumption | exact Ow.divw64 (by omega) (by omega) | exact Ow.mul0 ⟨by omega, by omega⟩ | exact Ow.mul1 ⟨by omega, by omega⟩ | exact Ow.shl0 (by omega) (by omega) (by omega) | exact ⟨by omega, by omega⟩ | exact ⟨by omega, by omega, by omega⟩ | omega | (simp only [List.length_append, List.length_cons, List.length_nil]; omega) | (subst_vars; omega) | exact Ow.Sz.mono (a := 2560) (by assumption) (by decide)), (by first | assumption | exact (by assumption : Ow.Lng _ _).1 | exact Or.inr (Ow.mulx (a := 1280) (b := 1280) (by assumption) (by assumption) (by decide)) | assumption | exact Ow.divw64 (by omega) (by omega) | exact Ow.mul0 ⟨by omega, by omega⟩ | exact Ow.mul1 ⟨by omega, by omega⟩ | exact Ow.shl0 (by omega) (by omega) (by omega) | exact ⟨by omega, by omega⟩ | exact ⟨by omega, by omega, by omega⟩ | omega | (simp only [List.length_append, List.length_cons, List.length_nil]; omega) | (subst_vars; omega) | exact Ow.Sz.mono (a := 2560) (by assumption) (by decide)), (by first | assumption | exact (by assumption : Ow.Lng _ _).1 | exact Or.inr (Ow.mulx (a := 1280) (b := 1280) (by assumption) (by assumption) (by decide)) | assumption | exact Ow.divw64 (by omega) (by omega) | exact Ow.mul0 ⟨by omega, by omega⟩ | exact Ow.mul1 ⟨by omega, by omega⟩ | exact Ow.shl0 (by omega) (by omega) (by omega) | exact ⟨by omega, by omega⟩ | exact ⟨by omega, by omega, by omega⟩ | omega | (simp only [List.length_append, List.length_cons, List.length_nil]; omega) | (subst_vars; omega) | exact Ow.Sz.mono (a := 2560) (by assumption) (by decide)), (by first | assumption | exact (by assumption : Ow.Lng _ _).1 | exact Or.inr (Ow.mulx (a := 1280) (b := 1280) (by assumption) (by assumption) (by decide)) | assumption | exact Ow.divw64 (by omega) (by omega) | exact Ow.mul0 ⟨by omega, by omega⟩ | exact Ow.mul1 ⟨by omega, by omega⟩ | exact Ow.shl0 (by omega) (by omega) (by omega) | exact ⟨by omega, by omega⟩ | exact ⟨by omega, by omega, by omega⟩ | omega | (simp only [List.length_append, List.length_cons, List.length_nil]; omega) | (subst_vars; omega) | exact Ow.Sz.mono (a := 2560) (by assumption) (by decide)), fun ys_2 h40 h41 h42 p_9 Hn_12 h43 h44 h45 => ?_⟩
          refine ⟨_, rfl, ?_⟩
          refine ⟨_, _, _, _, rfl, h45, (h43 _ _ (h38 _ _ (Ow.at_mut (ne_of_none (Ow.at_mut (ne_of_none (h18 _ _ h14) h23) (h25 _ _ (h22 _ _ (h18 _ _ h14)))) h_p_6) (h34 _ _ (h33 _ _ (Ow.at_new h_p_8 (Ow.at_new h_p_7 (h32 _ _ (h31 _ _ (h29 _ _ (Ow.at_new h_p_6 (Ow.at_mut (ne_of_none (h18 _ _ h14) h23) (h25 _ _ (h22 _ _ (h18 _ _ h14))))))))))))))), (by first | assumption | exact (by assumption : Ow.Lng _ _).1 | exact Or.inr (Ow.mulx (a := 1280) (b := 1280) (by assumption) (by assumption) (by decide)) | assumption | exact Ow.divw64 (by omega) (by omega) | exact Ow.mul0 ⟨by omega, by omega⟩ | exact Ow.mul1 ⟨by omega, by omega⟩ | exact Ow.shl0 (by omega) (by omega) (by omega) | exact ⟨by omega, by omega⟩ | exact ⟨by omega, by omega, by omega⟩ | omega | (simp only [List.length_append, List.length_cons, List.length_nil]; omega) | (subst_vars; omega) | rfl | (subst_vars; first | exact Ow.Lng.uniq (B := 2 ^ width.toNat) (by omega) (by assumption) (by assumption) (by assumption) | exact Ow.Lng.uniq (B := 2 ^ width.toNat) (by omega) (by assumption) (by assumption) (Eq.trans (by assumption) (Eq.symm (by assumption))) | exact Ow.Lng.uniq (B := 2 ^ width.toNat) (by omega) (by assumption) (by assumption) (Eq.trans (by assumption) ((Int.mul_comm _ _).trans (Eq.symm (by assumption)))))), (by first | assumption | exact (by assumption : Ow.Lng _ _).1 | exact Or.inr (Ow.mulx (a := 1280) (b := 1280) (by assumption) (by assumption) (by decide)) | assumption | exact Ow.divw64 (by omega) (by omega) | exact Ow.mul0 ⟨by omega, by omega⟩ | exact Ow.mul1 ⟨by omega, by omega⟩ | exact Ow.shl0 (by omega) (by omega) (by omega) | exact ⟨by omega, by omega⟩ | exact ⟨by omega, by omega, by omega⟩ | omega | (simp only [List.length_append, List.length_cons, List.length_nil]; omega) | (subst_vars; omega) | rfl | (subst_vars; first | exact Ow.Lng.uniq (B := 2 ^ width.toNat) (by omega) (by assumption) (by assumption) (by assumption) | exact Ow.Lng.uniq (B := 2 ^ width.toNat) (by omega) (by assumption) (by assumption) (Eq.trans (by assumption) (Eq.symm (by assumption))) | exact Ow.Lng.uniq (B := 2 ^ width.toNat) (by omega) (by assumption) (by assumption) (Eq.trans (by assumption) ((Int.mul_comm _ _).trans (Eq.symm (by assumption)))))), fun Hn_13 h46 => ?_⟩
          refine ⟨_, rfl, ?_⟩
          refine iteF ?_
          exact ⟨_, _, _, _, _, _, _, _, rfl, ((((Ow.same_mut (((((((((Ow.same_mut ((((h4.trans h10).trans h18).trans h22).trans h25) (Same.free ((h4.trans h10).trans h18) h23)).trans (Ow.same_new h_p_6)).trans h29).trans h31).trans h32).trans (Ow.same_new h_p_7)).trans (Ow.same_new h_p_8)).trans h33).trans h34) (Same.free (Ow.same_mut ((((h4.trans h10).trans h18).trans h22).trans h25) (Same.free ((h4.trans h10).trans h18) h23)) h_p_6)).trans h38).trans h43).trans h46), (h46 _ _ (h43 _ _ (h38 _ _ (Ow.at_mut (ne_of_none (Ow.at_mut (ne_of_none (h18 _ _ (h10 _ _ h5)) h23) (h25 _ _ (h22 _ _ (h18 _ _ (h10 _ _ h5))))) h_p_6) (h34 _ _ (h33 _ _ (Ow.at_new h_p_8 (Ow.at_new h_p_7 (h32 _ _ (h31 _ _ (h29 _ _ (Ow.at_new h_p_6 (Ow.at_mut (ne_of_none (h18 _ _ (h10 _ _ h5)) h23) (h25 _ _ (h22 _ _ (h18 _ _ (h10 _ _ h5))))))))))))))))), trivial⟩
    · rintro _ Hn_14 ⟨_, _, _, _, _, _, _, _, rfl, h47, h48, _⟩
      exact kont _ h47
end
def tx_mk {K : PySem.W.Frag} {h : Heap} {mg : Str → Option Value} (X : K.In h) (G : h.Ns mainGlobals mg) {f_l_drawn : Addr} {od_l_drawn an_l_drawn : Option Addr} {oc_l_drawn kV_l_drawn dc_l_drawn pm_l_drawn cd_l_drawn ct_l_drawn : Value} {sl_l_drawn : Array (Option Value)} {f_l_long : Addr} {od_l_long an_l_long : Option Addr} {oc_l_long kV_l_long dc_l_long pm_l_long cd_l_long ct_l_long : Value} {sl_l_long : Array (Option Value)} {f_l_row : Addr} {od_l_row an_l_row : Option Addr} {oc_l_row kV_l_row dc_l_row pm_l_row cd_l_row ct_l_row : Value} {sl_l_row : Array (Option Value)} {f_l_number : Addr} {od_l_number an_l_number : Option Addr} {oc_l_number kV_l_number dc_l_number pm_l_number cd_l_number ct_l_number : Value} {sl_l_number : Array (Option Value)} {f_is_whole : Addr} {od_is_whole an_is_whole : Option Addr} {oc_is_whole kV_is_whole dc_is_whole pm_is_whole cd_is_whole ct_is_whole : Value} {sl_is_whole : Array (Option Value)} {f_need_width : Addr} {od_need_width an_need_width : Option Addr} {oc_need_width kV_need_width dc_need_width pm_need_width cd_need_width ct_need_width : Value} {sl_need_width : Array (Option Value)} {f_long_of : Addr} {od_long_of an_long_of : Option Addr} {oc_long_of kV_long_of dc_long_of pm_long_of cd_long_of ct_long_of : Value} {sl_long_of : Array (Option Value)} {f_is_long : Addr} {od_is_long an_is_long : Option Addr} {oc_is_long kV_is_long dc_is_long pm_is_long cd_is_long ct_is_long : Value} {sl_is_long : Array (Option Value)} {f_need_long : Addr} {od_need_long an_need_long : Option Addr} {oc_need_long kV_need_long dc_need_long pm_need_long cd_need_long ct_need_long : Value} {sl_need_long : Array (Option Value)} {f_number_of : Addr} {od_number_of an_number_of : Option Addr} {oc_number_of kV_number_of dc_number_of pm_number_of cd_number_of ct_number_of : Value} {sl_number_of : Array (Option Value)} {f_l_whole : Addr} {od_l_whole an_l_whole : Option Addr} {oc_l_whole kV_l_whole dc_l_whole pm_l_whole cd_l_whole ct_l_whole : Value} {sl_l_whole : Array (Option Value)} {f_l_same : Addr} {od_l_same an_l_same : Option Addr} {oc_l_same kV_l_same dc_l_same pm_l_same cd_l_same ct_l_same : Value} {sl_l_same : Array (Option Value)} {f_l_none : Addr} {od_l_none an_l_none : Option Addr} {oc_l_none kV_l_none dc_l_none pm_l_none cd_l_none ct_l_none : Value} {sl_l_none : Array (Option Value)} {f_law : Addr} {od_law an_law : Option Addr} {oc_law kV_law dc_law pm_law cd_law ct_law : Value} {sl_law : Array (Option Value)} {tk_LEAST_WIDTH : Tok} {tk_GREATEST_WIDTH : Tok}        
    (a_l_drawn : PySem.W.nsIn K mainGlobals "_law_drawn" = some (some (.ref f_l_drawn)))
    (l_l_drawn : K.lookup f_l_drawn = some ⟨oc_l_drawn, od_l_drawn, .func (PySem.W.fnOf "_law_drawn" "_law_drawn" (defArgs s_l_drawn) (defBody s_l_drawn) (defScope s_l_drawn) .none kV_l_drawn dc_l_drawn pm_l_drawn an_l_drawn cd_l_drawn ct_l_drawn), sl_l_drawn⟩)
    (c_l_drawn : PySem.W.codeIn K cd_l_drawn "_law_drawn" = true)
    (k_l_drawn : PySem.W.keepIn K (.ref f_l_drawn) = true)
    (a_l_long : PySem.W.nsIn K mainGlobals "_law_long" = some (some (.ref f_l_long)))
    (l_l_long : K.lookup f_l_long = some ⟨oc_l_long, od_l_long, .func (PySem.W.fnOf "_law_long" "_law_long" (defArgs s_l_long) (defBody s_l_long) (defScope s_l_long) .none kV_l_long dc_l_long pm_l_long an_l_long cd_l_long ct_l_long), sl_l_long⟩)
    (c_l_long : PySem.W.codeIn K cd_l_long "_law_long" = true)
    (k_l_long : PySem.W.keepIn K (.ref f_l_long) = true)
    (a_l_row : PySem.W.nsIn K mainGlobals "_law_row" = some (some (.ref f_l_row)))
    (l_l_row : K.lookup f_l_row = some ⟨oc_l_row, od_l_row, .func (PySem.W.fnOf "_law_row" "_law_row" (defArgs s_l_row) (defBody s_l_row) (defScope s_l_row) .none kV_l_row dc_l_row pm_l_row an_l_row cd_l_row ct_l_row), sl_l_row⟩)
    (c_l_row : PySem.W.codeIn K cd_l_row "_law_row" = true)
    (k_l_row : PySem.W.keepIn K (.ref f_l_row) = true)
    (a_l_number : PySem.W.nsIn K mainGlobals "_law_number" = some (some (.ref f_l_number)))
    (l_l_number : K.lookup f_l_number = some ⟨oc_l_number, od_l_number, .func (PySem.W.fnOf "_law_number" "_law_number" (defArgs s_l_number) (defBody s_l_number) (defScope s_l_number) .none kV_l_number dc_l_number pm_l_number an_l_number cd_l_number ct_l_number), sl_l_number⟩)
    (c_l_number : PySem.W.codeIn K cd_l_number "_law_number" = true)
    (k_l_number : PySem.W.keepIn K (.ref f_l_number) = true)
    (a_is_whole : PySem.W.nsIn K mainGlobals "is_whole" = some (some (.ref f_is_whole)))
    (l_is_whole : K.lookup f_is_whole = some ⟨oc_is_whole, od_is_whole, .func (PySem.W.fnOf "is_whole" "is_whole" (defArgs s_is_whole) (defBody s_is_whole) (defScope s_is_whole) .none kV_is_whole dc_is_whole pm_is_whole an_is_whole cd_is_whole ct_is_whole), sl_is_whole⟩)
    (c_is_whole : PySem.W.codeIn K cd_is_whole "is_whole" = true)
    (k_is_whole : PySem.W.keepIn K (.ref f_is_whole) = true)
    (a_need_width : PySem.W.nsIn K mainGlobals "need_width" = some (some (.ref f_need_width)))
    (l_need_width : K.lookup f_need_width = some ⟨oc_need_width, od_need_width, .func (PySem.W.fnOf "need_width" "need_width" (defArgs s_need_width) (defBody s_need_width) (defScope s_need_width) .none kV_need_width dc_need_width pm_need_width an_need_width cd_need_width ct_need_width), sl_need_width⟩)
    (c_need_width : PySem.W.codeIn K cd_need_width "need_width" = true)
    (k_need_width : PySem.W.keepIn K (.ref f_need_width) = true)
    (a_long_of : PySem.W.nsIn K mainGlobals "long_of" = some (some (.ref f_long_of)))
    (l_long_of : K.lookup f_long_of = some ⟨oc_long_of, od_long_of, .func (PySem.W.fnOf "long_of" "long_of" (defArgs s_long_of) (defBody s_long_of) (defScope s_long_of) .none kV_long_of dc_long_of pm_long_of an_long_of cd_long_of ct_long_of), sl_long_of⟩)
    (c_long_of : PySem.W.codeIn K cd_long_of "long_of" = true)
    (k_long_of : PySem.W.keepIn K (.ref f_long_of) = true)
    (a_is_long : PySem.W.nsIn K mainGlobals "is_long" = some (some (.ref f_is_long)))
    (l_is_long : K.lookup f_is_long = some ⟨oc_is_long, od_is_long, .func (PySem.W.fnOf "is_long" "is_long" (defArgs s_is_long) (defBody s_is_long) (defScope s_is_long) .none kV_is_long dc_is_long pm_is_long an_is_long cd_is_long ct_is_long), sl_is_long⟩)
    (c_is_long : PySem.W.codeIn K cd_is_long "is_long" = true)
    (k_is_long : PySem.W.keepIn K (.ref f_is_long) = true)
    (a_need_long : PySem.W.nsIn K mainGlobals "need_long" = some (some (.ref f_need_long)))
    (l_need_long : K.lookup f_need_long = some ⟨oc_need_long, od_need_long, .func (PySem.W.fnOf "need_long" "need_long" (defArgs s_need_long) (defBody s_need_long) (defScope s_need_long) .none kV_need_long dc_need_long pm_need_long an_need_long cd_need_long ct_need_long), sl_need_long⟩)
    (c_need_long : PySem.W.codeIn K cd_need_long "need_long" = true)
    (k_need_long : PySem.W.keepIn K (.ref f_need_long) = true)
    (a_number_of : PySem.W.nsIn K mainGlobals "number_of" = some (some (.ref f_number_of)))
    (l_number_of : K.lookup f_number_of = some ⟨oc_number_of, od_number_of, .func (PySem.W.fnOf "number_of" "number_of" (defArgs s_number_of) (defBody s_number_of) (defScope s_number_of) .none kV_number_of dc_number_of pm_number_of an_number_of cd_number_of ct_number_of), sl_number_of⟩)
    (c_number_of : PySem.W.codeIn K cd_number_of "number_of" = true)
    (k_number_of : PySem.W.keepIn K (.ref f_number_of) = true)
    (a_l_whole : PySem.W.nsIn K mainGlobals "_law_whole" = some (some (.ref f_l_whole)))
    (l_l_whole : K.lookup f_l_whole = some ⟨oc_l_whole, od_l_whole, .func (PySem.W.fnOf "_law_whole" "_law_whole" (defArgs s_l_whole) (defBody s_l_whole) (defScope s_l_whole) .none kV_l_whole dc_l_whole pm_l_whole an_l_whole cd_l_whole ct_l_whole), sl_l_whole⟩)
    (c_l_whole : PySem.W.codeIn K cd_l_whole "_law_whole" = true)
    (k_l_whole : PySem.W.keepIn K (.ref f_l_whole) = true)
    (a_l_same : PySem.W.nsIn K mainGlobals "_law_same" = some (some (.ref f_l_same)))
    (l_l_same : K.lookup f_l_same = some ⟨oc_l_same, od_l_same, .func (PySem.W.fnOf "_law_same" "_law_same" (defArgs s_l_same) (defBody s_l_same) (defScope s_l_same) .none kV_l_same dc_l_same pm_l_same an_l_same cd_l_same ct_l_same), sl_l_same⟩)
    (c_l_same : PySem.W.codeIn K cd_l_same "_law_same" = true)
    (k_l_same : PySem.W.keepIn K (.ref f_l_same) = true)
    (a_l_none : PySem.W.nsIn K mainGlobals "_law_none" = some (some (.ref f_l_none)))
    (l_l_none : K.lookup f_l_none = some ⟨oc_l_none, od_l_none, .func (PySem.W.fnOf "_law_none" "_law_none" (defArgs s_l_none) (defBody s_l_none) (defScope s_l_none) .none kV_l_none dc_l_none pm_l_none an_l_none cd_l_none ct_l_none), sl_l_none⟩)
    (c_l_none : PySem.W.codeIn K cd_l_none "_law_none" = true)
    (k_l_none : PySem.W.keepIn K (.ref f_l_none) = true)
    (a_law : PySem.W.nsIn K mainGlobals "law" = some (some (.ref f_law)))
    (l_law : K.lookup f_law = some ⟨oc_law, od_law, .func (PySem.W.fnOf "law" "law" (defArgs s_law) (defBody s_law) (defScope s_law) .none kV_law dc_law pm_law an_law cd_law ct_law), sl_law⟩)
    (c_law : PySem.W.codeIn K cd_law "law" = true)
    (k_law : PySem.W.keepIn K (.ref f_law) = true)
    (ag_LEAST_WIDTH : PySem.W.nsIn K mainGlobals "LEAST_WIDTH" = some (some (.int 4 tk_LEAST_WIDTH)))
    (ag_GREATEST_WIDTH : PySem.W.nsIn K mainGlobals "GREATEST_WIDTH" = some (some (.int 32 tk_GREATEST_WIDTH)))
    (zz_range : PySem.W.nsIn K mainGlobals "range" = some none)
    (zz_len : PySem.W.nsIn K mainGlobals "len" = some none)
    (zz_max : PySem.W.nsIn K mainGlobals "max" = some none)
    (zz_isinstance : PySem.W.nsIn K mainGlobals "isinstance" = some none)
    (zz_bool : PySem.W.nsIn K mainGlobals "bool" = some none)
    (zz_int : PySem.W.nsIn K mainGlobals "int" = some none)
    (zz_list : PySem.W.nsIn K mainGlobals "list" = some none)
    (zz_tuple : PySem.W.nsIn K mainGlobals "tuple" = some none) : Tx K mg where
  d_l_drawn := ⟨f_l_drawn, _, fun_mk (st := s_l_drawn) l_l_drawn c_l_drawn k_l_drawn, (fun_mk (st := s_l_drawn) l_l_drawn c_l_drawn k_l_drawn).binds fun _ _ _ _ _ _ us hl => match us, hl with | [_, _], _ => rfl, PySem.W.mg_of X G a_l_drawn⟩
  d_l_long := ⟨f_l_long, _, fun_mk (st := s_l_long) l_l_long c_l_long k_l_long, (fun_mk (st := s_l_long) l_l_long c_l_long k_l_long).binds fun _ _ _ _ _ _ us hl => match us, hl with | [_, _, _, _], _ => rfl, PySem.W.mg_of X G a_l_long⟩
  d_l_row := ⟨f_l_row, _, fun_mk (st := s_l_row) l_l_row c_l_row k_l_row, (fun_mk (st := s_l_row) l_l_row c_l_row k_l_row).binds fun _ _ _ _ _ _ us hl => match us, hl with | [_], _ => rfl, PySem.W.mg_of X G a_l_row⟩
  d_l_number := ⟨f_l_number, _, fun_mk (st := s_l_number) l_l_number c_l_number k_l_number, (fun_mk (st := s_l_number) l_l_number c_l_number k_l_number).binds fun _ _ _ _ _ _ us hl => match us, hl with | [_, _], _ => rfl, PySem.W.mg_of X G a_l_number⟩
  d_is_whole := ⟨f_is_whole, _, fun_mk (st := s_is_whole) l_is_whole c_is_whole k_is_whole, (fun_mk (st := s_is_whole) l_is_whole c_is_whole k_is_whole).binds fun _ _ _ _ _ _ us hl => match us, hl with | [_], _ => rfl, PySem.W.mg_of X G a_is_whole⟩
  d_need_width := ⟨f_need_width, _, fun_mk (st := s_need_width) l_need_width c_need_width k_need_width, (fun_mk (st := s_need_width) l_need_width c_need_width k_need_width).binds fun _ _ _ _ _ _ us hl => match us, hl with | [_], _ => rfl, PySem.W.mg_of X G a_need_width⟩
  d_long_of := ⟨f_long_of, _, fun_mk (st := s_long_of) l_long_of c_long_of k_long_of, (fun_mk (st := s_long_of) l_long_of c_long_of k_long_of).binds fun _ _ _ _ _ _ us hl => match us, hl with | [_, _], _ => rfl, PySem.W.mg_of X G a_long_of⟩
  d_is_long := ⟨f_is_long, _, fun_mk (st := s_is_long) l_is_long c_is_long k_is_long, (fun_mk (st := s_is_long) l_is_long c_is_long k_is_long).binds fun _ _ _ _ _ _ us hl => match us, hl with | [_, _], _ => rfl, PySem.W.mg_of X G a_is_long⟩
  d_need_long := ⟨f_need_long, _, fun_mk (st := s_need_long) l_need_long c_need_long k_need_long, (fun_mk (st := s_need_long) l_need_long c_need_long k_need_long).binds fun _ _ _ _ _ _ us hl => match us, hl with | [_, _], _ => rfl, PySem.W.mg_of X G a_need_long⟩
  d_number_of := ⟨f_number_of, _, fun_mk (st := s_number_of) l_number_of c_number_of k_number_of, (fun_mk (st := s_number_of) l_number_of c_number_of k_number_of).binds fun _ _ _ _ _ _ us hl => match us, hl with | [_, _], _ => rfl, PySem.W.mg_of X G a_number_of⟩
  d_l_whole := ⟨f_l_whole, _, fun_mk (st := s_l_whole) l_l_whole c_l_whole k_l_whole, (fun_mk (st := s_l_whole) l_l_whole c_l_whole k_l_whole).binds fun _ _ _ _ _ _ us hl => match us, hl with | [_], _ => rfl, PySem.W.mg_of X G a_l_whole⟩
  d_l_same := ⟨f_l_same, _, fun_mk (st := s_l_same) l_l_same c_l_same k_l_same, (fun_mk (st := s_l_same) l_l_same c_l_same k_l_same).binds fun _ _ _ _ _ _ us hl => match us, hl with | [_, _], _ => rfl, PySem.W.mg_of X G a_l_same⟩
  d_l_none := ⟨f_l_none, _, fun_mk (st := s_l_none) l_l_none c_l_none k_l_none, (fun_mk (st := s_l_none) l_l_none c_l_none k_l_none).binds fun _ _ _ _ _ _ us hl => match us, hl with | [_, _, _], _ => rfl, PySem.W.mg_of X G a_l_none⟩
  d_law := ⟨f_law, _, fun_mk (st := s_law) l_law c_law k_law, (fun_mk (st := s_law) l_law c_law k_law).binds fun _ _ _ _ _ _ us hl => match us, hl with | [_], _ => rfl, PySem.W.mg_of X G a_law⟩
  g_LEAST_WIDTH := ⟨_, PySem.W.mg_of X G ag_LEAST_WIDTH⟩
  g_GREATEST_WIDTH := ⟨_, PySem.W.mg_of X G ag_GREATEST_WIDTH⟩
  z_range := PySem.W.mg_none_of X G zz_range
  z_len := PySem.W.mg_none_of X G zz_len
  z_max := PySem.W.mg_none_of X G zz_max
  z_isinstance := PySem.W.mg_none_of X G zz_isinstance
  z_bool := PySem.W.mg_none_of X G zz_bool
  z_int := PySem.W.mg_none_of X G zz_int
  z_list := PySem.W.mg_none_of X G zz_list
  z_tuple := PySem.W.mg_none_of X G zz_tuple
theorem all_mk {l : PySem.W.OpenLaw} {w : World} {K : PySem.W.Frag} {h : Heap} {mg : Str → Option Value} {fa : Addr} (hfa : mg "law" = some (.ref fa)) (T : Tx K mg) :
    ∃ fd : FuncData, (∀ (s : Shared) (v : Value), BindsTo s fd ⟨[v], []⟩ [("_law_script", v)]) ∧ ∀ base : Heap, K.In base → base.Ns mainGlobals mg → FnOk l.prog w K mg base CX0 7 fa fd ["_law_script"] (sp_law K) := by
  have e := hfa.symm.trans T.d_law.m
  cases e
  refine ⟨T.d_law.fd, fun s v => ?_, fun base _ _ => ok_law T⟩
  obtain ⟨oc, od, kV, doc, pm, an, cdv, ct, osl, e, _, _⟩ := T.d_law.F.ex
  rw [e]
  exact .of_eq rfl
theorem walk {l : PySem.W.OpenLaw} {q : Program} {loose : List Str} {XP : (Str → Option Value) → Heap → Prop} {YP : World → Heap → Prop} {d : DefRec} {K : Params → PySem.W.Frag} (hn : l.most = some 63) (hdf : d.params.defaults = [])
    (hY : ∀ (w : World) (h : Heap), YP w h → (K w.params).In h)
    (F : ∀ (w : World) (mg : Str → Option Value) (fa : Addr) (h : Heap), (K w.params).In h → h.Ns mainGlobals mg → mg d.name = some (.ref fa) →
      ∃ fd : FuncData, (∀ (s : Shared) (u : Value), BindsTo s fd ⟨[u], []⟩ [("_law_script", u)]) ∧ ∀ base : Heap, (K w.params).In base → base.Ns mainGlobals mg → FnOk l.prog w (K w.params) mg base CX0 7 fa fd ["_law_script"] (sp_law (K w.params))) :
    PySem.W.WalkO q loose XP YP l.row.toRowW d [] (fun f vs => PySem.call f vs) :=
  L2.walk_of (n := 63) (k := 7) (x := "_law_script") (CX := fun _ => CX0) (sp := fun w => sp_law (K w.params)) hn (by decide) hdf ⟨rfl, by decide, by decide⟩ hY F (fun _ _ a ns hl _ hS => ⟨a, ns, rfl, hS, hl, fun _ _ => rfl⟩) fun _ _ _ _ _ z => z
end Ow
open PySem PySem.W PyProof.Rows
set_option maxRecDepth 100000 in
set_option maxHeartbeats 0 in
theorem PySem.Challenge.cw_overwise_k51_longs_and_numbers_holds : PySem.Challenge.rw_overwise_k51_longs_and_numbers.Holds := by
  w_on; o_law; k_head; (case hw => w_witness2)
  k_fill
  refine _root_.Ow.walk (l := PySem.Challenge.rw_overwise_k51_longs_and_numbers) rfl rfl (fun w h Y => PySem.W.kIn_of Y) ?F
  case F =>
    intro w mg fa h KX G hmg
    refine' _root_.Ow.all_mk (h := h) hmg (_root_.Ow.tx_mk KX G ?a_l_drawn ?l_l_drawn ?c_l_drawn ?k_l_drawn ?a_l_long ?l_l_long ?c_l_long ?k_l_long ?a_l_row ?l_l_row ?c_l_row ?k_l_row ?a_l_number ?l_l_number ?c_l_number ?k_l_number ?a_is_whole ?l_is_whole ?c_is_whole ?k_is_whole ?a_need_width ?l_need_width ?c_need_width ?k_need_width ?a_long_of ?l_long_of ?c_long_of ?k_long_of ?a_is_long ?l_is_long ?c_is_long ?k_is_long ?a_need_long ?l_need_long ?c_need_long ?k_need_long ?a_number_of ?l_number_of ?c_number_of ?k_number_of ?a_l_whole ?l_l_whole ?c_l_whole ?k_l_whole ?a_l_same ?l_l_same ?c_l_same ?k_l_same ?a_l_none ?l_l_none ?c_l_none ?k_l_none ?a_law ?l_law ?c_law ?k_law ?ag_LEAST_WIDTH ?ag_GREATEST_WIDTH ?zz_range ?zz_len ?zz_max ?zz_isinstance ?zz_bool ?zz_int ?zz_list ?zz_tuple)
    (case a_l_drawn => k_is)
    (case l_l_drawn => k_is)
    (case c_l_drawn => k_is)
    (case k_l_drawn => k_is)
    (case a_l_long => k_is)
    (case l_l_long => k_is)
    (case c_l_long => k_is)
    (case k_l_long => k_is)
    (case a_l_row => k_is)
    (case l_l_row => k_is)
    (case c_l_row => k_is)
    (case k_l_row => k_is)
    (case a_l_number => k_is)
    (case l_l_number => k_is)
    (case c_l_number => k_is)
    (case k_l_number => k_is)
    (case a_is_whole => k_is)
    (case l_is_whole => k_is)
    (case c_is_whole => k_is)
    (case k_is_whole => k_is)
    (case a_need_width => k_is)
    (case l_need_width => k_is)
    (case c_need_width => k_is)
    (case k_need_width => k_is)
    (case a_long_of => k_is)
    (case l_long_of => k_is)
    (case c_long_of => k_is)
    (case k_long_of => k_is)
    (case a_is_long => k_is)
    (case l_is_long => k_is)
    (case c_is_long => k_is)
    (case k_is_long => k_is)
    (case a_need_long => k_is)
    (case l_need_long => k_is)
    (case c_need_long => k_is)
    (case k_need_long => k_is)
    (case a_number_of => k_is)
    (case l_number_of => k_is)
    (case c_number_of => k_is)
    (case k_number_of => k_is)
    (case a_l_whole => k_is)
    (case l_l_whole => k_is)
    (case c_l_whole => k_is)
    (case k_l_whole => k_is)
    (case a_l_same => k_is)
    (case l_l_same => k_is)
    (case c_l_same => k_is)
    (case k_l_same => k_is)
    (case a_l_none => k_is)
    (case l_l_none => k_is)
    (case c_l_none => k_is)
    (case k_l_none => k_is)
    (case a_law => k_is)
    (case l_law => k_is)
    (case c_law => k_is)
    (case k_law => k_is)
    (case ag_LEAST_WIDTH => k_is)
    (case ag_GREATEST_WIDTH => k_is)
    (case zz_range => k_is)
    (case zz_len => k_is)
    (case zz_max => k_is)
    (case zz_isinstance => k_is)
    (case zz_bool => k_is)
    (case zz_int => k_is)
    (case zz_list => k_is)
    (case zz_tuple => k_is)
