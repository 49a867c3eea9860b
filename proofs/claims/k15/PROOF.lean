import PyProof.Rows.All
import Wide.All
import OpenK.AllK
import Wide.FinOn
import HandS.ForMost
import HandS.Wide
import HandS.WideBits
import HandS.IsInst
import HandS.Style
import HandS.ForExc
import HandS.New0
import HandS.ExcInit
import HandS.ExcIs
import HandS.ClsMeth
import HandS.NoneIn
import HandS.Conv
import PySem.Challenge.RW_overwise_k15_adjusted
set_option Elab.async false
set_option linter.all false
set_option maxRecDepth 100000
set_option maxHeartbeats 4000000
/-! ### own rules and steps -/
namespace Ow
open PySem L2
section
variable {Q : VK} {H H' : Hp} {A B : Prop}
theorem gi {e : Int} (h : ∀ x, x = e → Q (.int x) H) : Q (.int e) H := h e rfl
theorem gl {e n : Int} (h : e = n) (q : Q (.int n) H) : Q (.int e) H := h ▸ q
theorem gs {e n : Str} (h : e = n) (q : Q (.str n) H) : Q (.str e) H := h ▸ q
theorem cc {v : V} {σ : L2.St} (h : Q v H) : tC v σ H Q := h
theorem p2 (k : Nat) : (0 : Int) < 2 ^ k := Int.pow_pos (by decide)
theorem gpow {k : Nat} (h : ∀ x, x = (2 : Int) ^ k → 0 < x → Q (.int x) H) : Q (.int (1 * 2 ^ k)) H := by
  rw [Int.one_mul]; exact h _ rfl (p2 k)
theorem gmod {i j : Int} (hj : 0 < j) (h : ∀ x, x = i % j → 0 ≤ x → x < j → Q (.int x) H) : Q (.int (i % j)) H :=
  h _ rfl (Int.emod_nonneg _ (by omega)) (Int.emod_lt_of_pos _ hj)
theorem gmax {i j : Int} (h : ∀ x, (i ≤ x ∧ j ≤ x ∧ (x = i ∨ x = j)) → Q (.int x) H) : Q (.int (if j > i then j else i)) H := by
  apply h; split <;> omega
theorem gmin {i j : Int} (h : ∀ x, (x ≤ i ∧ x ≤ j ∧ (x = i ∨ x = j)) → Q (.int x) H) : Q (.int (if j < i then j else i)) H := by
  apply h; split <;> omega
theorem max_ite {x i j : Int} (h : x = if j > i then j else i) : i ≤ x ∧ j ≤ x ∧ (x = i ∨ x = j) := by split at h <;> omega
theorem min_ite {x i j : Int} (h : x = if j < i then j else i) : x ≤ i ∧ x ≤ j ∧ (x = i ∨ x = j) := by split at h <;> omega
theorem abs_ite {x i : Int} (h : x = if i < 0 then -i else i) : (0 ≤ i ∧ x = i) ∨ (i < 0 ∧ x = -i) := by split at h <;> omega
theorem eqi {a b : Int} (h : a = b) (q : Q (.int b) H) : Q (.int a) H := h ▸ q
theorem eqb {a b : Bool} (h : a = b) (q : Q (.bl b) H) : Q (.bl a) H := h ▸ q
theorem eqd {P : Prop} [Decidable P] (h : P) (q : Q (.bl true) H) : Q (.bl (decide P)) H := by rw [decide_eq_true h]; exact q
theorem eqnd {P : Prop} [Decidable P] (h : ¬ P) (q : Q (.bl true) H) : Q (.bl (!decide P)) H := by rw [decide_eq_false h]; exact q
theorem eqeqi {i j : Int} (h : i = j) (q : Q (.bl true) H) : Q (.bl (decide (V.int i = V.int j))) H := by rw [decide_eq_true (by rw [h])]; exact q
theorem eqnei {i j : Int} (h : i ≠ j) (q : Q (.bl true) H) : Q (.bl (!decide (V.int i = V.int j))) H := by
  rw [decide_eq_false (fun z => h (V.int.inj z))]; exact q
theorem ginteq {i j : Int} (h : ∀ n : Int, ((n = 1 ∧ i = j) ∨ (n = 0 ∧ i ≠ j)) → Q (.int n) H) : Q (.int (if decide (V.int i = V.int j) = true then 1 else 0)) H := by
  by_cases e : i = j
  · rw [if_pos (decide_eq_true (by rw [e]))]; exact h _ (.inl ⟨rfl, e⟩)
  · rw [if_neg (fun z => e (V.int.inj (of_decide_eq_true z)))]; exact h _ (.inr ⟨rfl, e⟩)
theorem gintd {P : Prop} [Decidable P] (h : ∀ n : Int, ((n = 1 ∧ P) ∨ (n = 0 ∧ ¬ P)) → Q (.int n) H) : Q (.int (if decide P = true then 1 else 0)) H := by
  by_cases e : P
  · rw [if_pos (decide_eq_true e)]; exact h _ (.inl ⟨rfl, e⟩)
  · rw [if_neg (fun z => e (of_decide_eq_true z))]; exact h _ (.inr ⟨rfl, e⟩)
theorem ifb {b : Bool} (h1 : b = true → A) (h2 : b = false → B) : if b = true then A else B := by
  cases b
  · exact iteF (h2 rfl)
  · exact iteT (h1 rfl)
theorem ifd {P : Prop} [Decidable P] (h1 : P → A) (h2 : ¬ P → B) : if decide P = true then A else B := by
  by_cases e : P
  · rw [if_pos (decide_eq_true e)]; exact h1 e
  · rw [if_neg (fun z => e (of_decide_eq_true z))]; exact h2 e
theorem ifnd {P : Prop} [Decidable P] (h1 : ¬ P → A) (h2 : P → B) : if (!decide P) = true then A else B := by
  by_cases e : P
  · rw [decide_eq_true e]; exact iteF (h2 e)
  · rw [decide_eq_false e]; exact iteT (h1 e)
theorem ifeqi {i j : Int} (h1 : i = j → A) (h2 : i ≠ j → B) : if decide (V.int i = V.int j) = true then A else B :=
  ifd (fun e => h1 (V.int.inj e)) (fun e => h2 (fun z => e (by rw [z])))
theorem ifnei {i j : Int} (h1 : i ≠ j → A) (h2 : i = j → B) : if (!decide (V.int i = V.int j)) = true then A else B :=
  ifnd (fun e => h1 (fun z => e (by rw [z]))) (fun e => h2 (V.int.inj e))
theorem ifeqs {i j : Str} (h1 : i = j → A) (h2 : i ≠ j → B) : if decide (V.str i = V.str j) = true then A else B :=
  ifd (fun e => h1 (V.str.inj e)) (fun e => h2 (fun z => e (by rw [z])))
theorem ifnes {i j : Str} (h1 : i ≠ j → A) (h2 : i = j → B) : if (!decide (V.str i = V.str j)) = true then A else B :=
  ifnd (fun e => h1 (fun z => e (by rw [z]))) (fun e => h2 (V.str.inj e))
theorem ifeqb {a b : Bool} (h1 : (a = true ↔ b = true) → A) (h2 : ¬ (a = true ↔ b = true) → B) : if decide (V.bl a = V.bl b) = true then A else B :=
  ifd (fun e => h1 (by rw [V.bl.inj e])) (fun e => h2 (fun z => e (by rw [Bool.eq_iff_iff.mpr z])))
theorem ifneb {a b : Bool} (h1 : ¬ (a = true ↔ b = true) → A) (h2 : (a = true ↔ b = true) → B) : if (!decide (V.bl a = V.bl b)) = true then A else B :=
  ifnd (fun e => h1 (fun z => e (by rw [Bool.eq_iff_iff.mpr z]))) (fun e => h2 (by rw [V.bl.inj e]))
/-! heaps -/
theorem at_new {p q : Addr} {u o : HO} (hp : H p = none) (h : H q = some o) : upd H p u q = some o := by rw [upd_ne (ne_of_none h hp)]; exact h
theorem at_mut {b q : Addr} {u o : HO} (hn : q ≠ b) (h : H q = some o) : upd H b u q = some o := by rw [upd_ne hn]; exact h
theorem same_new {p : Addr} {u : HO} (hp : H p = none) : Same H (upd H p u) := fun _ _ h => at_new hp h
theorem same_mut {b : Addr} {u : HO} (s : Same H H') (hb : H b = none) : Same H (upd H' b u) := fun q o h => by rw [upd_ne (ne_of_none h hb)]; exact s q o h
theorem ne_sym {a b : Addr} (h : a ≠ b) : b ≠ a := fun z => h z.symm
theorem seq {K : PySem.W.Frag} {a : Addr} {xs : List V} (e : Same H H') (h : SqL K H a xs) : SqL K H' a xs := e.seq h
theorem seqT {K : PySem.W.Frag} {a : Addr} {xs : List V} (e : Same H H') (h : SqT K H a xs) : SqT K H' a xs := by
  rcases h with (h | ⟨o, h⟩) | h
  · exact .inl (.inl (e _ _ h))
  · exact .inl (.inr ⟨o, e _ _ h⟩)
  · exact .inr h
end
/-! operators -/
section
variable {X : Cx}
/-- named answers -/
theorem op_mulN : OpR X (binaryOp .Mult) (fun x y H Q => ∃ i j, x = .int i ∧ y = .int j ∧ (CMul i j ∨ CMulX i j) ∧ ∀ z, z = i * j → Q (.int z) H) := by
  intro pins s σ H x y v u Q I rx ry q
  obtain ⟨i, j, rfl, rfl, hc | hc, q⟩ := q
  · exact op_mul pins s σ H _ _ v u Q I rx ry ⟨i, j, rfl, rfl, hc, q _ rfl⟩
  · exact op_mulX pins s σ H _ _ v u Q I rx ry ⟨i, j, rfl, rfl, hc, q _ rfl⟩
theorem op_divN : OpR X (binaryOp .FloorDiv) (fun x y H Q => ∃ i j, x = .int i ∧ y = .int j ∧ CDivW i j ∧ ∀ z, z = i / j → Q (.int z) H) := by
  intro pins s σ H x y v u Q I rx ry q
  obtain ⟨i, j, rfl, rfl, hc, q⟩ := q
  exact op_fdivW pins s σ H _ _ v u Q I rx ry ⟨i, j, rfl, rfl, hc, q _ rfl⟩
theorem op_divF : OpR X (binaryOp .FloorDiv) (fun x y H Q => ∃ i j, x = .int i ∧ y = .int j ∧ (j ≠ 0 ∧ j.natAbs.log2 < 9000) ∧ ∀ z, z = i.fdiv j → Q (.int z) H) := by
  intro pins s σ H x y v u Q I rx ry q
  obtain ⟨i, j, rfl, rfl, hc, q⟩ := q
  obtain ⟨t, rfl⟩ := rx
  obtain ⟨t', rfl⟩ := ry
  exact PyProof.Rows.floordiv_int hc.1 ⟨.int (i.fdiv j), H, I.tok _, ⟨_, rfl⟩, q _ rfl⟩ (.inl (PyProof.noPylong_of_log2 hc.2))
theorem op_shlN : OpR X (binaryOp .LShift) (fun x y H Q => ∃ i j, x = .int i ∧ y = .int j ∧ (CPow i j ∨ CShl i j) ∧ ∀ z, z = i * 2 ^ j.toNat → Q (.int z) H) := by
  intro pins s σ H x y v u Q I rx ry q
  obtain ⟨i, j, rfl, rfl, hc | hc, q⟩ := q
  · exact op_shl pins s σ H _ _ v u Q I rx ry ⟨i, j, rfl, rfl, hc, q _ rfl⟩
  · exact op_shlW pins s σ H _ _ v u Q I rx ry ⟨i, j, rfl, rfl, hc, q _ rfl⟩
theorem op_shrN : OpR X (binaryOp .RShift) (fun x y H Q => ∃ i j, x = .int i ∧ y = .int j ∧ 0 ≤ j ∧ ∀ z, z = i / 2 ^ j.toNat → Q (.int z) H) := by
  intro pins s σ H x y v u Q I rx ry q
  obtain ⟨i, j, rfl, rfl, hc, q⟩ := q
  exact op_shr pins s σ H _ _ v u Q I rx ry ⟨i, j, rfl, rfl, hc, q _ rfl⟩
theorem op_modN : OpR X (binaryOp .Mod) (fun x y H Q => ∃ i j, x = .int i ∧ y = .int j ∧ 0 < j ∧ ∀ z, z = i % j → 0 ≤ z → z < j → Q (.int z) H) := by
  intro pins s σ H x y v u Q I rx ry q
  obtain ⟨i, j, rfl, rfl, hc, q⟩ := q
  exact op_mod pins s σ H _ _ v u Q I rx ry ⟨i, j, rfl, rfl, hc, q _ rfl (Int.emod_nonneg _ (by omega)) (Int.emod_lt_of_pos _ hc)⟩
theorem op_shl1 : OpR X (binaryOp .LShift) (fun x y H Q => ∃ j, x = .int 1 ∧ y = .int j ∧ (0 ≤ j ∧ j ≤ 1000000) ∧ ∀ z, z = 2 ^ j.toNat → 0 < z → Q (.int z) H) := by
  intro pins s σ H x y v u Q I rx ry q
  obtain ⟨j, rfl, rfl, ⟨h0, h1⟩, q⟩ := q
  refine op_shl pins s σ H _ _ v u Q I rx ry ⟨1, j, rfl, rfl, ⟨h0, h1, by decide⟩, ?_⟩
  show Q (.int (1 * 2 ^ j.toNat)) H
  rw [Int.one_mul]
  exact q _ rfl (p2 _)
theorem op_mask : OpR X (binaryOp .BitAnd) (fun x y H Q => ∃ (i j : Int) (k : Nat), x = .int i ∧ y = .int j ∧ j = 2 ^ k - 1 ∧ ∀ r, r = i % 2 ^ k → 0 ≤ r → r < 2 ^ k → Q (.int r) H) := by
  intro pins s σ H x y v u Q I rx ry h
  obtain ⟨i, j, k, rfl, rfl, rfl, q⟩ := h
  refine op_andM pins s σ H _ _ v u Q I rx ry ⟨i, k, rfl, rfl, q _ rfl (Int.emod_nonneg _ ?_) (Int.emod_lt_of_pos _ (p2 k))⟩
  have := p2 k; omega
theorem op_bor : OpR X (binaryOp .BitOr) (fun x y H Q => ∃ (i j : Int), x = .int i ∧ y = .int j ∧ 0 ≤ i ∧ 0 ≤ j ∧ ∀ r, r = Builtin.bitOr i j → 0 ≤ r → Q (.int r) H) := by
  intro pins s σ H x y v u Q I rx ry h
  obtain ⟨i, j, rfl, rfl, h0, h1, q⟩ := h
  refine op_or pins s σ H _ _ v u Q I rx ry ⟨i, j, rfl, rfl, q _ rfl ?_⟩
  rw [bitOr_nn h0 h1]
  exact Int.natCast_nonneg _
theorem call_dm : CallR X (.builtin "divmod") (fun xs H Q => ∃ i j, xs = [.int i, .int j] ∧ CDivP i j ∧ ∀ q r p, q = i / j → r = i % j → 0 ≤ r → r < j → H p = none → Q (.ref p) (upd H p (.tup [.int q, .int r]))) := by
  intro pins s σ H xs us Q I r h
  obtain ⟨i, j, rfl, hc, q⟩ := h
  exact call_divmodW pins s σ H _ us Q I r ⟨i, j, rfl, hc, fun p hp => q _ _ p rfl rfl (Int.emod_nonneg _ (by have := hc.1; omega)) (Int.emod_lt_of_pos _ hc.1) hp⟩
theorem call_intb : CallR X (.type "int") (fun xs H Q => ∃ k, xs = [.bl k] ∧ ∀ n : Int, ((n = 1 ∧ k = true) ∨ (n = 0 ∧ k = false)) → Q (.int n) H) := by
  intro pins s σ H xs us Q I r h
  obtain ⟨k, rfl, q⟩ := h
  refine call_int1 pins s σ H _ us Q I r (.inr ⟨k, rfl, ?_⟩)
  cases k
  · exact q _ (.inr ⟨rfl, rfl⟩)
  · exact q _ (.inl ⟨rfl, rfl⟩)
/-- an int's value by a name -/
def tNmi (t : TE) : TE := fun σ H Q => t σ H fun v H1 => ∃ i, v = .int i ∧ ∀ x, x = i → Q (.int x) H1
theorem pe_nmi {e : Expr} {t : TE} (h : PE X e t) : PE X e (tNmi t) := ⟨fun pins s σ H Q I q => thn (h.run pins s σ H _ I q) fun _ _ z => by
  obtain ⟨v, H1, I1, r1, i, rfl, q1⟩ := z
  exact ⟨.int i, H1, I1, r1, q1 i rfl⟩⟩
/-- a reckoned constant -/
def tLit (n : Int) (t : TE) : TE := fun σ H Q => t σ H fun v H1 => v = .int n ∧ Q (.int n) H1
theorem pe_lit (n : Int) {e : Expr} {t : TE} (h : PE X e t) : PE X e (tLit n t) := ⟨fun pins s σ H Q I q => thn (h.run pins s σ H _ I q) fun _ _ z => by
  obtain ⟨v, H1, I1, r1, rfl, q1⟩ := z
  exact ⟨.int n, H1, I1, r1, q1⟩⟩
end
theorem pow2_mono {a b : Nat} (h : a ≤ b) : (2 : Int) ^ a ≤ 2 ^ b := by
  have e : (2 : Int) ^ b = 2 ^ a * 2 ^ (b - a) := by rw [← Int.pow_add, show a + (b - a) = b by omega]
  rw [e]
  have h1 := p2 a
  have h2 := p2 (b - a)
  calc (2 : Int) ^ a = 2 ^ a * 1 := by omega
    _ ≤ 2 ^ a * 2 ^ (b - a) := Int.mul_le_mul_of_nonneg_left (by omega) (by omega)
theorem pow2_pred {w : Int} (h : 1 ≤ w) : (2 : Int) ^ w.toNat = 2 * 2 ^ (w - 1).toNat := by
  have e : w.toNat = (w - 1).toNat + 1 := by omega
  rw [e, Int.pow_succ, Int.mul_comm]
theorem pow2_lt {a b : Int} (h0 : 0 ≤ a) (h : a < b) : (2 : Int) ^ a.toNat < 2 ^ b.toNat := by
  have h1 := pow2_mono (a := a.toNat) (b := (b - 1).toNat) (by omega)
  have h2 := pow2_pred (w := b) (by omega)
  have h3 := p2 (b - 1).toNat
  omega
theorem pow2_le32 {w : Int} (h : w ≤ 32) : (2 : Int) ^ w.toNat ≤ 4294967296 := pow2_mono (b := 32) (by omega)
theorem pow2_le64 {w : Int} (h : w ≤ 64) : (2 : Int) ^ w.toNat ≤ 18446744073709551616 := pow2_mono (b := 64) (by omega)
theorem divw64 {i j : Int} (h0 : 0 < j) (h : j ≤ 18446744073709551616) : CDivW i j := wide_div h0 (b := 65) (by omega) (by decide) (by decide)
/-! sizes -/
def Sz (n : Nat) (i : Int) : Prop := i.natAbs < 2 ^ n
theorem Sz.lit {n : Nat} {i : Int} (h : i.natAbs < 2 ^ n) : Sz n i := h
theorem Sz.mono {a b : Nat} {i : Int} (h : Sz a i) (hab : a ≤ b) : Sz b i := Nat.lt_of_lt_of_le h (Nat.pow_le_pow_right (by decide) hab)
theorem Sz.mul {a b : Nat} {i j : Int} (h : Sz a i) (h' : Sz b j) : Sz (a + b) (i * j) := wide_lt h h'
theorem Sz.le {a : Nat} {i j : Int} (h : Sz a i) (hl : j.natAbs ≤ i.natAbs) : Sz a j := Nat.lt_of_le_of_lt hl h
theorem Sz.add {a : Nat} {i j : Int} (h : Sz a i) (h' : Sz a j) : Sz (a + 1) (i + j) := by
  unfold Sz at *
  rw [Nat.pow_succ]
  have := Int.natAbs_add_le i j
  omega
theorem Sz.neg {a : Nat} {i : Int} (h : Sz a i) : Sz a (-i) := by unfold Sz at *; rw [Int.natAbs_neg]; exact h
theorem Sz.sub {a : Nat} {i j : Int} (h : Sz a i) (h' : Sz a j) : Sz (a + 1) (i - j) := by
  rw [Int.sub_eq_add_neg]; exact h.add h'.neg
theorem Sz.pow {k : Int} {n : Nat} (h : k ≤ n) : Sz (n + 1) (2 ^ k.toNat) := by
  unfold Sz
  rw [Int.natAbs_pow]
  exact Nat.pow_lt_pow_right (by decide) (by omega)
theorem Sz.shl {a n : Nat} {i k : Int} (h : Sz a i) (hk : k ≤ n) : Sz (a + (n + 1)) (i * 2 ^ k.toNat) := h.mul (Sz.pow hk)
theorem Sz.div {a : Nat} {i j : Int} (h : Sz a i) (hj : 0 < j) : Sz a (i / j) := by
  refine h.le ?_
  have h1 := Int.ediv_mul_add_emod i j
  have h2 := Int.emod_nonneg i (show j ≠ 0 by omega)
  have h3 := Int.emod_lt_of_pos i hj
  by_cases hi : i < 0
  · have h4 : i ≤ i / j := by
      refine (Int.le_ediv_iff_mul_le hj).mpr ?_
      have : i * 1 ≥ i * j := Int.mul_le_mul_of_nonpos_left (by omega) (by omega)
      omega
    have h5 : i / j < 0 := Int.ediv_neg_of_neg_of_pos hi hj
    omega
  · have h4 : i / j ≤ i := Int.ediv_le_self _ (by omega)
    have h5 : 0 ≤ i / j := Int.ediv_nonneg (by omega) (by omega)
    omega
theorem Sz.rng {n : Nat} {i j : Int} (h0 : 0 ≤ i) (h1 : i < j) (h : j.natAbs ≤ 2 ^ n) : Sz n i := by
  unfold Sz; omega
theorem Sz.md {n : Nat} {i j : Int} (h0 : 0 ≤ i) (h1 : i < j) (h : Sz n j) : Sz n i := by
  unfold Sz at *; omega
theorem Sz.or {n : Nat} {x i j : Int} (h : x = i ∨ x = j) (hi : Sz n i) (hj : Sz n j) : Sz n x := by rcases h with rfl | rfl <;> assumption
theorem Sz.abs {n : Nat} {x i : Int} (h : Sz n i) (hx : x = if i < 0 then -i else i) : Sz n x := by
  refine h.le ?_; split at hx <;> omega
theorem mul0 {i j : Int} (h : -(2 ^ 64) < i ∧ i < 2 ^ 64) : CMul i j ∨ CMulX i j := .inl (.inl h)
theorem mul1 {i j : Int} (h : -(2 ^ 64) < j ∧ j < 2 ^ 64) : CMul i j ∨ CMulX i j := .inl (.inr h)
theorem shl0 {i j : Int} (h : 0 ≤ j) (h' : j ≤ 1000000) (h2 : i.natAbs < 2 ^ 64) : CPow i j ∨ CShl i j := .inl ⟨h, h', h2⟩
theorem szW {i : Int} (h : -(2 ^ 200) < i ∧ i < 2 ^ 200) : Sz 200 i := by unfold Sz; omega
theorem mulW {i j : Int} (h : -(2 ^ 200) < i ∧ i < 2 ^ 200) (h' : -(2 ^ 200) < j ∧ j < 2 ^ 200) : CMul i j ∨ CMulX i j := .inr (mulx_ok (szW h) (szW h') (by decide))
theorem divW {i j : Int} (h : 0 < j) (h' : j < 2 ^ 200) : CDivW i j := wide_div h (b := 200) (szW ⟨by omega, h'⟩) (by decide) (by decide)
theorem shlW {i j : Int} (h : 0 ≤ j) (h' : j ≤ 1000) (h2 : -(2 ^ 200) < i ∧ i < 2 ^ 200) : CPow i j ∨ CShl i j := by
  obtain ⟨n, rfl⟩ := Int.eq_ofNat_of_zero_le h
  exact .inr (shl_ok (n := 200) (szW h2) (by omega))
theorem mulx {a b : Nat} {i j : Int} (h : Sz a i) (h' : Sz b j) (hl : a + b ≤ 134217728) : CMulX i j := mulx_ok h h' hl
theorem divz {b : Nat} {i j : Int} (h : 0 < j) (hb : Sz b j) (h0 : 0 < b) (h9 : b ≤ 9000) : CDivW i j := wide_div h hb h0 h9
theorem divzF {b : Nat} {j : Int} (h : j ≠ 0) (hb : Sz b j) (h0 : 0 < b) (h9 : b ≤ 9000) : j ≠ 0 ∧ j.natAbs.log2 < 9000 := ⟨h, Nat.lt_of_lt_of_le (PySem.Flt.log2_lt_of h0 hb) h9⟩
theorem eqdd {P P' : Prop} [Decidable P] [Decidable P'] {Q : VK} {H : Hp} (h : P ↔ P') (q : Q (.bl (decide P')) H) : Q (.bl (decide P)) H := by rw [decide_eq_decide.mpr h]; exact q
theorem eqeqb {i j : Bool} {Q : VK} {H : Hp} (h : i = j) (q : Q (.bl true) H) : Q (.bl (decide (V.bl i = V.bl j))) H := by rw [decide_eq_true (by rw [h])]; exact q
theorem ix_tupK {X : Cx} {K : PySem.W.Frag} (h : X.K = K) : IxR X (rIxT K) := h ▸ ix_tup
theorem ix_listK {X : Cx} {K : PySem.W.Frag} (h : X.K = K) : IxR X (rIxL K) := h ▸ ix_list
theorem call_lenK {X : Cx} {K : PySem.W.Frag} (h : X.K = K) : CallR X (.builtin "len") (fun xs H Q => ∃ p ys, xs = [.ref p] ∧ (SqL K H p ys ∨ SqT K H p ys) ∧ Q (.int ys.length) H) := h ▸ call_len_seq
theorem tyes {σ : L2.St} {H : Hp} {Q : Bool → Hp → Prop} (h : Q true H) : tYes σ H Q := h
theorem dmz {a : Nat} {i j : Int} (h : 0 < j) (hz : Sz a i) (ha : a ≤ 4000) : CDivP i j := divp_ok h (by have := PyProof.Rows.intBits_le hz; omega)
theorem dms {i j : Int} (h : 0 < j) (h0 : -(2 ^ 64) < i) (h1 : i < 2 ^ 64) : CDivP i j := dmz (a := 64) h (by unfold Sz; omega) (by decide)
theorem shlz {a n : Nat} {i j : Int} (h : Sz a i) (h0 : 0 ≤ j) (hj : j ≤ n) (hn : a + n ≤ 134217728) : CShl i j := by
  obtain ⟨k, rfl⟩ : ∃ k : Nat, j = k := ⟨j.toNat, by omega⟩
  exact shl_ok h (by omega)
/-- all but the object at b is as it was -/
def Fm (b : Addr) (H H' : Hp) : Prop := ∀ q o, q ≠ b → H q = some o → H' q = some o
theorem Fm.refl {b : Addr} {H : Hp} : Fm b H H := fun _ _ _ h => h
theorem Fm.same {b : Addr} {H H1 H2 : Hp} (a : Fm b H H1) (s : Same H1 H2) : Fm b H H2 := fun q o n h => s q o (a q o n h)
theorem Fm.mut {b : Addr} {H H1 : Hp} {u : HO} (a : Fm b H H1) : Fm b H (upd H1 b u) := fun q o n h => by rw [upd_ne n]; exact a q o n h
theorem Fm.mutF {b c : Addr} {H H1 : Hp} {u : HO} (a : Fm b H H1) (hc : H c = none) : Fm b H (upd H1 c u) := fun q o n h => by rw [upd_ne (ne_of_none h hc)]; exact a q o n h
theorem Fm.trans {b : Addr} {H H1 H2 : Hp} (a : Fm b H H1) (s : Fm b H1 H2) : Fm b H H2 := fun q o n h => s q o n (a q o n h)
theorem Fm.frameF {b c : Addr} {H H1 H2 : Hp} (a : Fm b H H1) (s : Fm c H1 H2) (hc : H c = none) : Fm b H H2 := fun q o n h => s q o (ne_of_none h hc) (a q o n h)
theorem Fm.free {b : Addr} {H H' : Hp} (a : Fm b H H') {o : HO} {l : Addr} (hb : H' b = some o) (h : H' l = none) : H l = none := by
  cases e : H l with
  | none => rfl
  | some u =>
    have n : l ≠ b := fun z => by rw [z, hb] at h; cases h
    rw [a l u n e] at h; cases h
theorem same_frame {c : Addr} {H H1 H2 : Hp} (s : Same H H1) (f : Fm c H1 H2) (hc : H c = none) : Same H H2 := fun q o h => f q o (ne_of_none h hc) (s q o h)
/-! lists of ints -/
theorem szl {n : Nat} (h : n < 1000000) : n < sizeLine := Nat.lt_of_lt_of_le h (by decide)
theorem szle {n : Nat} (h : n ≤ 1000000) : n ≤ sizeLine := Nat.le_trans h (by decide)
section
variable {X : Cx} {K : PySem.W.Frag} {H H' : Hp} {Q : VK} {a : Addr}
theorem ap_ints {xs : List Int} {e : Int} (h : H a = some (.lst (xs.map V.int ++ [.int e]))) : H a = some (.lst ((xs ++ [e]).map V.int)) := by
  rw [List.map_append]; exact h
theorem set_ints {xs : List Int} {e : Int} {j : Nat} (h : H a = some (.lst ((xs.map V.int).set j (.int e)))) : H a = some (.lst ((xs.set j e).map V.int)) := by
  rw [List.map_set]; exact h
theorem dpAll_ints : ∀ xs : List Int, DpAll K H (xs.map V.int) (xs.map PyData.int)
  | [] => .nil
  | x :: xs => .cons (.int x) (dpAll_ints xs)
theorem dp_ints {xs : List Int} (h : SqL K H a (xs.map V.int)) : Dp K H (.ref a) (.list (xs.map PyData.int)) := .lst h (dpAll_ints xs)
theorem layAll_ints : ∀ xs : List Int, PyData.canLayAll0 (xs.map PyData.int) = true
  | [] => rfl
  | x :: xs => by
    rw [List.map_cons, PyData.canLayAll0, layAll_ints xs]
    rfl
theorem depAll_ints : ∀ xs : List Int, PyData.depthAll (xs.map PyData.int) = 0
  | [] => rfl
  | x :: xs => by
    rw [List.map_cons, PyData.depthAll, depAll_ints xs]
    rfl
theorem shaped_ints (xs : List Int) : SeqAt.shaped (.list (xs.map PyData.int)) = true := by
  unfold SeqAt.shaped
  rw [PyData.canLay0, PyData.depth, layAll_ints, depAll_ints]
  rfl
theorem eqvAll_ints : ∀ xs ys : List Int, PyData.eqvAll (xs.map PyData.int) (ys.map PyData.int) = decide (xs = ys)
  | [], [] => rfl
  | [], _ :: _ => rfl
  | _ :: _, [] => rfl
  | x :: xs, y :: ys => by
    rw [List.map_cons, List.map_cons, PyData.eqvAll, PyData.eqv, eqvAll_ints xs ys]
    by_cases h : x = y
    · by_cases h2 : xs = ys <;> simp [h, h2]
    · simp [h]
theorem eqv_ints (xs ys : List Int) : PyData.eqv (.list (xs.map PyData.int)) (.list (ys.map PyData.int)) = decide (xs = ys) := by
  rw [PyData.eqv]; exact eqvAll_ints xs ys
theorem op_eqI (hu : X.A.units + 64 < cLine) : OpR X (compareOp .Eq) (fun x y H Q => ∃ (a b : Addr) (xs ys : List Int), x = .ref a ∧ y = .ref b ∧ SqL X.K H a (xs.map V.int) ∧ SqL X.K H b (ys.map V.int) ∧ Q (.bl (decide (xs = ys))) H) := by
  intro pins s σ H x y v u Q I rx ry h
  obtain ⟨a, b, xs, ys, rfl, rfl, h1, h2, q⟩ := h
  refine op_eqD hu pins s σ H _ _ v u Q I rx ry ⟨_, _, dp_ints h1, dp_ints h2, shaped_ints _, shaped_ints _, ?_⟩
  rw [eqv_ints]; exact q
theorem op_neI (hu : X.A.units + 64 < cLine) : OpR X (compareOp .NotEq) (fun x y H Q => ∃ (a b : Addr) (xs ys : List Int), x = .ref a ∧ y = .ref b ∧ SqL X.K H a (xs.map V.int) ∧ SqL X.K H b (ys.map V.int) ∧ Q (.bl (!decide (xs = ys))) H) := by
  intro pins s σ H x y v u Q I rx ry h
  obtain ⟨a, b, xs, ys, rfl, rfl, h1, h2, q⟩ := h
  refine op_neD hu pins s σ H _ _ v u Q I rx ry ⟨_, _, dp_ints h1, dp_ints h2, shaped_ints _, shaped_ints _, ?_⟩
  rw [eqv_ints]; exact q
theorem dpT_ints {xs : List Int} (h : SqT K H a (xs.map V.int)) : Dp K H (.ref a) (.tuple (xs.map PyData.int)) := .tup h (dpAll_ints xs)
theorem shapedT_ints (xs : List Int) : SeqAt.shaped (.tuple (xs.map PyData.int)) = true := by
  unfold SeqAt.shaped
  rw [PyData.canLay0, PyData.depth, layAll_ints, depAll_ints]
  rfl
theorem eqvT_ints (xs ys : List Int) : PyData.eqv (.tuple (xs.map PyData.int)) (.tuple (ys.map PyData.int)) = decide (xs = ys) := by
  rw [PyData.eqv]; exact eqvAll_ints xs ys
theorem op_eqT (hu : X.A.units + 64 < cLine) : OpR X (compareOp .Eq) (fun x y H Q => ∃ (a b : Addr) (xs ys : List Int), x = .ref a ∧ y = .ref b ∧ SqT X.K H a (xs.map V.int) ∧ SqT X.K H b (ys.map V.int) ∧ Q (.bl (decide (xs = ys))) H) := by
  intro pins s σ H x y v u Q I rx ry h
  obtain ⟨a, b, xs, ys, rfl, rfl, h1, h2, q⟩ := h
  refine op_eqD hu pins s σ H _ _ v u Q I rx ry ⟨_, _, dpT_ints h1, dpT_ints h2, shapedT_ints _, shapedT_ints _, ?_⟩
  rw [eqvT_ints]; exact q
theorem op_neT (hu : X.A.units + 64 < cLine) : OpR X (compareOp .NotEq) (fun x y H Q => ∃ (a b : Addr) (xs ys : List Int), x = .ref a ∧ y = .ref b ∧ SqT X.K H a (xs.map V.int) ∧ SqT X.K H b (ys.map V.int) ∧ Q (.bl (!decide (xs = ys))) H) := by
  intro pins s σ H x y v u Q I rx ry h
  obtain ⟨a, b, xs, ys, rfl, rfl, h1, h2, q⟩ := h
  refine op_neD hu pins s σ H _ _ v u Q I rx ry ⟨_, _, dpT_ints h1, dpT_ints h2, shapedT_ints _, shapedT_ints _, ?_⟩
  rw [eqvT_ints]; exact q
theorem flat_ints (xs : List Int) : (xs.map V.int).all flatV = true := by
  rw [List.all_map, List.all_eq_true]; intro x _; rfl
theorem inV_ints (i : Int) (xs : List Int) : inV (.int i) (xs.map V.int) = decide (i ∈ xs) := by
  unfold inV
  rw [Bool.eq_iff_iff, List.any_map, List.any_eq_true, decide_eq_true_eq]
  constructor
  · rintro ⟨y, hy, e⟩
    have : (y == i) = true := e
    rw [← beq_iff_eq.mp this]; exact hy
  · exact fun h => ⟨i, h, beq_self_eq_true i⟩
theorem op_inI : OpR X (compareOp .In) (fun x y H Q => ∃ (i : Int) (p : Addr) (xs : List Int), x = .int i ∧ y = .ref p ∧ SqL X.K H p (xs.map V.int) ∧ Q (.bl (decide (i ∈ xs))) H) := by
  intro pins s σ H x y v u Q I rx ry h
  obtain ⟨i, p, xs, rfl, rfl, hs, q⟩ := h
  refine op_in_seq pins s σ H _ _ v u Q I rx ry ⟨_, _, rfl, .inl hs, rfl, flat_ints xs, ?_⟩
  rw [if_neg Bool.false_ne_true, inV_ints]
  exact q
theorem op_notInI : OpR X (compareOp .NotIn) (fun x y H Q => ∃ (i : Int) (p : Addr) (xs : List Int), x = .int i ∧ y = .ref p ∧ SqL X.K H p (xs.map V.int) ∧ Q (.bl (!decide (i ∈ xs))) H) := by
  intro pins s σ H x y v u Q I rx ry h
  obtain ⟨i, p, xs, rfl, rfl, hs, q⟩ := h
  refine op_notIn_seq pins s σ H _ _ v u Q I rx ry ⟨_, _, rfl, .inl hs, rfl, flat_ints xs, ?_⟩
  rw [if_pos rfl, inV_ints]
  exact q
theorem ixN_nat {n j : Nat} (h : j < n) : ixN n (j : Int) = some j := by
  unfold ixN
  rw [if_pos (by omega), if_pos (by omega)]; simp
theorem ixlast {xs : List Int} (h : SqL K H a (xs.map V.int)) (h0 : 0 < xs.length) (q : ∀ y, xs.getLast? = some y → Q (.int y) H) : rIxL K (.ref a) (.int (-1)) H Q := by
  obtain ⟨y, hy⟩ : ∃ y, xs.getLast? = some y := by
    cases e : xs.getLast? with
    | none => rw [List.getLast?_eq_none_iff] at e; subst e; simp at h0
    | some y => exact ⟨y, rfl⟩
  refine ⟨a, _, _, .int y, rfl, rfl, h, ?_, q y hy⟩
  obtain ⟨ys, rfl⟩ := List.getLast?_eq_some_iff.mp hy
  rw [List.map_append]
  exact atI_last _ _
end
/-! items -/
section
variable {K : PySem.W.Frag} {H : Hp} {Q : VK} {a : Addr}
theorem ixi {xs : List Int} {i : Int} (h : SqL K H a (xs.map V.int)) (h0 : 0 ≤ i) (h1 : i < xs.length) (q : ∀ y, xs[i.toNat]? = some y → Q (.int y) H) : rIxL K (.ref a) (.int i) H Q := by
  obtain ⟨n, rfl⟩ : ∃ n : Nat, i = n := ⟨i.toNat, by omega⟩
  have hl : n < xs.length := by omega
  refine ⟨a, _, _, .int (xs[n]'hl), rfl, rfl, h, atI_nat ?_, q _ (List.getElem?_eq_getElem hl)⟩
  rw [List.getElem?_map, List.getElem?_eq_getElem hl]
  all_goals rfl
theorem inV_int {y : Int} {xs : List Int} (h : y ∈ xs) : (if false = true then !(inV (.int y) (xs.map V.int)) else inV (.int y) (xs.map V.int)) = true := by
  rw [if_neg Bool.false_ne_true]
  unfold inV
  rw [List.any_map, List.any_eq_true]
  exact ⟨y, h, by simp [eqV]⟩
theorem ixn {xs : List Int} {i : Int} (h : SqL K H a (xs.map V.int)) (h0 : 0 ≤ i) (h1 : i < xs.length) (q : ∀ y, xs[i.toNat]? = some y → Q (.int y) H) : rIxL K (.ref a) (.int i) H Q := ixi h h0 h1 q
theorem ixi3 {x0 x1 x2 : Int} {i : Int} (h : SqL K H a [.int x0, .int x1, .int x2]) (hi : 0 ≤ i ∧ i < 3) (q : ∀ y, ((i = 0 ∧ y = x0) ∨ (i = 1 ∧ y = x1) ∨ (i = 2 ∧ y = x2)) → Q (.int y) H) : rIxL K (.ref a) (.int i) H Q := by
  refine ixi (xs := [x0, x1, x2]) h hi.1 hi.2 fun y hy => q y ?_
  have : i = 0 ∨ i = 1 ∨ i = 2 := by omega
  rcases this with rfl | rfl | rfl <;> simp at hy <;> omega
theorem ixs4 {x0 x1 x2 x3 : Str} {i : Int} (h : SqL K H a [.str x0, .str x1, .str x2, .str x3]) (hi : 0 ≤ i ∧ i < 4) (q : ∀ y, ((i = 0 ∧ y = x0) ∨ (i = 1 ∧ y = x1) ∨ (i = 2 ∧ y = x2) ∨ (i = 3 ∧ y = x3)) → Q (.str y) H) : rIxL K (.ref a) (.int i) H Q := by
  obtain ⟨n, rfl⟩ : ∃ n : Nat, i = n := ⟨i.toNat, by omega⟩
  have : n = 0 ∨ n = 1 ∨ n = 2 ∨ n = 3 := by omega
  rcases this with rfl | rfl | rfl | rfl
  · exact ⟨a, _, _, .str x0, rfl, rfl, h, atI_nat (j := 0) rfl, q _ (by simp)⟩
  · exact ⟨a, _, _, .str x1, rfl, rfl, h, atI_nat (j := 1) rfl, q _ (by simp)⟩
  · exact ⟨a, _, _, .str x2, rfl, rfl, h, atI_nat (j := 2) rfl, q _ (by simp)⟩
  · exact ⟨a, _, _, .str x3, rfl, rfl, h, atI_nat (j := 3) rfl, q _ (by simp)⟩
theorem gturn {n i : Nat} {σ : L2.St} {R : L2.St → Hp → Prop} (h : ∀ x : Int, x = (i : Int) → gName n (.int x) σ H R) : gName n (.int (0 + (i : Int))) σ H R := h _ (by omega)
theorem ints_get {xs : List Int} {i : Nat} {v : V} (h : (xs.map V.int)[i]? = some v) : ∃ n, v = .int n ∧ xs[i]? = some n := by
  rw [List.getElem?_map] at h
  cases e : xs[i]? with
  | none => rw [e] at h; cases h
  | some n => rw [e] at h; exact ⟨n, (Option.some.inj h).symm, rfl⟩
/-- the ints a .. b - 1 -/
def rgI (a b : Int) : List Int := (List.range (b - a).toNat).map fun i => a + (i : Nat)
theorem rg_at {a : Addr} {x y : Int} : upd H a (.lst (rgV x y)) a = some (.lst ((rgI x y).map V.int)) := by
  rw [upd_same]
  unfold rgV rgI
  rw [List.map_map]
  rfl
theorem rgI_mem {n y : Int} (h : y ∈ rgI 0 n) : 0 ≤ y ∧ y < n := by
  obtain ⟨j, hj, rfl⟩ := List.mem_map.mp h
  have := List.mem_range.mp hj
  omega
theorem cat_at {a : Addr} {xs ys : List Int} : upd H a (.lst (xs.map V.int ++ ys.map V.int)) a = some (.lst ((xs ++ ys).map V.int)) := by
  rw [upd_same, List.map_append]
theorem szc {xs ys : List Int} {n : Nat} (h : xs.length + ys.length ≤ n) (hn : n ≤ sizeLine) : (xs.map V.int).length + (ys.map V.int).length ≤ sizeLine := by
  rw [List.length_map, List.length_map]; omega
/-! an if whose two ways meet again in one state -/
theorem join {tc : TT} {t1 t2 u : TS} {D : Ends} {σ : L2.St} {H : Hp} (Pv : L2.St → Hp → Prop) (h1 : ∀ N : L2.St → Hp → Prop, (∀ σ2 H2, Pv σ2 H2 → N σ2 H2) → tIfS tc t1 t2 { D with nx := N } σ H) (h2 : ∀ σ2 H2, Pv σ2 H2 → u D σ2 H2) : tSeq (tIfS tc t1 t2) u D σ H := h1 _ h2
theorem setc {i : Nat} {te : TE} {u : TS} {D : Ends} {σ : L2.St} {H : Hp} (v : V) (h : u D (σ.set i (some v)) H) (e : ∀ Q : VK, Q v H → te σ H Q := by exact fun _ z => z) : tSeq (tAsg te (gName i)) u D σ H := e _ h
theorem gnm {i : Nat} {v : V} {σ : L2.St} {H : Hp} {N bk ct : L2.St → Hp → Prop} {rt : VK} (h : N (σ.set i (some v)) H) : gName i v σ H (Ends.nx ⟨N, rt, bk, ct⟩) := h
theorem joinL {tc : TT} {t1 t2 : TS} {D : Ends} {σ : L2.St} {H : Hp} (Pv : L2.St → Hp → Prop) (h1 : ∀ N : L2.St → Hp → Prop, (∀ σ2 H2, Pv σ2 H2 → N σ2 H2) → tIfS tc t1 t2 { D with nx := N } σ H) (h2 : ∀ σ2 H2, Pv σ2 H2 → D.nx σ2 H2) : tIfS tc t1 t2 D σ H := h1 _ h2
/-! a for over a written list, turn by turn -/
def unr (K : PySem.W.Frag) (a : Addr) (xs : List V) (g : TG) (tb : TS) (D : Ends) : List V → L2.St → Hp → Prop
  | [], σ, H => SqL K H a xs ∧ D.nx σ H
  | x :: r, σ, H => SqL K H a xs ∧ g x σ H fun σ2 H2 => tb { D with nx := unr K a xs g tb D r, ct := unr K a xs g tb D r, bk := D.nx } σ2 H2
theorem un_start {xs : List V} {g : TG} {tb : TS} {D : Ends} {σ : L2.St} (h : unr K a xs g tb D xs σ H) :
    ∃ W : Nat → Nat → L2.St → Hp → Prop, (∃ m, W 0 m σ H) ∧ ∀ i m σ H, W i m σ H →
      ((Itl K a).stop i H ∧ D.nx σ H) ∨ ((Itl K a).go i H ∧ ∃ N : L2.St → Hp → Prop, (∀ σ' H', N σ' H' → ∃ m', m' < m ∧ W (i + 1) m' σ' H') ∧ ∀ x H', (Itl K a).yld i H x H' → g x σ H' fun σ2 H2 => tb { D with nx := N, ct := N, bk := D.nx } σ2 H2) := by
  refine ⟨fun i m σ H => m = xs.length - i ∧ i ≤ xs.length ∧ unr K a xs g tb D (xs.drop i) σ H, ⟨xs.length, by simp, Nat.zero_le _, h⟩, ?_⟩
  rintro i m σ H ⟨rfl, hi, p⟩
  by_cases hlt : i < xs.length
  · rw [List.drop_eq_getElem_cons hlt] at p
    obtain ⟨q, p⟩ := p
    refine .inr ⟨⟨xs, xs[i], q, by simp [hlt]⟩, unr K a xs g tb D (xs.drop (i + 1)), fun σ' H' p' => ⟨xs.length - (i + 1), by omega, rfl, hlt, p'⟩, fun x H' y => ?_⟩
    obtain ⟨e, y⟩ := y
    subst e
    have e2 := y xs q
    rw [List.getElem?_eq_getElem hlt] at e2
    cases e2
    exact p
  · have e : i = xs.length := by omega
    subst e
    rw [List.drop_length] at p
    obtain ⟨q, p⟩ := p
    exact .inl ⟨⟨xs, q, Nat.le_refl _⟩, p⟩
end
/-! a comprehension over a written list, turn by turn -/
def unlc (K : PySem.W.Frag) (a : Addr) (xs : List V) (g : TG) (tt : TT) (te : TE) (σ : L2.St) (vs : List Nat) (D : Addr) (Qd : Hp → Prop) : List V → Hp → Prop
  | [], H => SqL K H a xs ∧ Qd H
  | x :: r, H => SqL K H a xs ∧ g x (wipe σ vs) H fun σ2 H2 => wipe σ2 vs = wipe σ vs ∧ tt σ2 H2 fun b H3 =>
      if b = true then te σ2 H3 fun y H4 => ∃ acc, H4 D = some (.lst acc) ∧ acc.length < sizeLine ∧ unlc K a xs g tt te σ vs D Qd r (upd H4 D (.lst (acc ++ [y]))) else unlc K a xs g tt te σ vs D Qd r H3
theorem unlc_start {K : PySem.W.Frag} {a : Addr} {xs : List V} {g : TG} {tt : TT} {te : TE} {σ : L2.St} {vs : List Nat} {H1 : Hp} {D : Addr} {Qd : Hp → Prop} (h : unlc K a xs g tt te σ vs D Qd xs (upd H1 D (.lst []))) :
    ∃ W : Nat → Nat → Hp → Prop, (∃ m, W 0 m (upd H1 D (.lst []))) ∧ ∀ i m H, W i m H →
      ((Itl K a).stop i H ∧ Qd H) ∨ ((Itl K a).go i H ∧ ∃ Nx : Hp → Prop, (∀ H', Nx H' → ∃ m', m' < m ∧ W (i + 1) m' H') ∧ ∀ x H', (Itl K a).yld i H x H' → g x (wipe σ vs) H' fun σ2 H2 => wipe σ2 vs = wipe σ vs ∧ tt σ2 H2 fun b H3 =>
        if b = true then te σ2 H3 fun y H4 => ∃ acc, H4 D = some (.lst acc) ∧ acc.length < sizeLine ∧ Nx (upd H4 D (.lst (acc ++ [y]))) else Nx H3) := by
  refine ⟨fun i m H => m = xs.length - i ∧ i ≤ xs.length ∧ unlc K a xs g tt te σ vs D Qd (xs.drop i) H, ⟨xs.length, by simp, Nat.zero_le _, h⟩, ?_⟩
  rintro i m H ⟨rfl, hi, p⟩
  by_cases hlt : i < xs.length
  · rw [List.drop_eq_getElem_cons hlt] at p
    obtain ⟨q, p⟩ := p
    refine .inr ⟨⟨xs, xs[i], q, by simp [hlt]⟩, unlc K a xs g tt te σ vs D Qd (xs.drop (i + 1)), fun H' p' => ⟨xs.length - (i + 1), by omega, rfl, hlt, p'⟩, fun x H' y => ?_⟩
    obtain ⟨e, y⟩ := y
    subst e
    have e2 := y xs q
    rw [List.getElem?_eq_getElem hlt] at e2
    cases e2
    exact p
  · have e : i = xs.length := by omega
    subst e
    rw [List.drop_length] at p
    obtain ⟨q, p⟩ := p
    exact .inl ⟨⟨xs, q, Nat.le_refl _⟩, p⟩
/-- a def that stands behind the top -/
structure Dk (K : PySem.W.Frag) (mg : Str → Option Value) (x qual : Str) (st : Stmt) (ps : List Str) : Type where
  f : Addr
  fd : FuncData
  F : Fun K x qual st f fd
  b : Binds K fd ps []
  m : mg x = some (.ref f)
end Ow

namespace Ow
open PySem L2

section
variable {X : Cx} {e : Expr} {es : List Expr} {ta : TA} {b : Str} {B : Addr} {mc : Value} {p1 p2 pos : Pos}
open PyProof.Rows PySem.Spec in
/-- B.__init__(self, ..), B an own class whose __init__ is ValueError's -/
theorem pe_winit {pl : Sem Bool} (hg : Gl X b) (hm : X.mg b = some (.ref B)) (rd : ClX.CRead X.K B mc) (cv : PySem.W.findCls X.K (.ref B) mc "__init__" = some (.val (.builtin "ValueError.__init__"))) (ha : PA X (e :: es) ta)
    (hdb : (b == ("__debug__" : Str)) = false := by decide)
    (hc : eval (.Call (.Attribute (.Name b p1) "__init__" p2) (e :: es) [] pos) X.env = (do
      let ov ← eval (.Name b p1) X.env
      standAt p2.atName
      let (f, first) ← holding [ov] (getMethod ov "__init__" pl)
      callWith pos f first (backTo pos (starEach (e :: es) X.env)) (backToKw pos (keywordEach [] X.env))) := by rfl)
    (he : starEach (e :: es) X.env = (false, eval e X.env) :: starEach es X.env := by rfl) (hpl : (backTo pos (starEach es X.env)).any (·.1) = false := by rfl) :
    PE X (.Call (.Attribute (.Name b p1) "__init__" p2) (e :: es) [] pos) (tVeI X.K ta) := by
  refine ⟨fun pins s σ H Q I h => ?_⟩
  refine PySem.W.methodCall_KW (ld_glob I hg hm ?_ hdb) hc
  refine PySem.W.method_cls I.kIn rd.ga (PySem.W.cls_value I.kIn rd.rd cv (by decide +kernel) ?_)
  show wpAny _ _ (callWith pos (Value.builtin "ValueError.__init__") [] (backTo pos (starEach (e :: es) X.env)) []) _ _ _
  refine PyProof.Rows.callWith_method1 (thn (ha.run pos pins _ σ H _ (I.tok _) h) fun us s1 ⟨vs, H1, I1, r1, a, C, ws, ev, hl, T, ea, q⟩ => ?_) he hpl
  subst ev
  cases r1 with
  | @cons _ u0 _ ur ra rw' =>
    obtain rfl : u0 = Value.ref a := ra
    have hlen : ur.length ≤ sizeLine := by
      rw [← Paired.length rw', sizeLine_eq]
      omega
    exact oinit_ok T I1 ea hlen fun s' J => ⟨.non, H1, J, rfl, q⟩
/-- C(), C's own __init__ keeping sp, no field stored -/
def tMkN (C : Addr) (sp : Sp) : L2.St → Hp → XK → Prop := fun σ H1 Q => ∀ a, H1 a = none → sp [.ref a] (upd H1 a (exo a C none))
  (fun v H2 => v = .non ∧ H2 a = some (exo a C none) ∧ Q (.ref C) none (del H2 a)) (fun _ _ _ => False)
open PyProof.Rows PySem.Spec in
theorem mk_endN {pins : List (Addr × Obj)} {σ : L2.St} {H1 H2 : Hp} {hp hp2 h2 : Heap} {g1 g2 : Array GenState} {d1 d2 : Drawn} {t1 t2 : Nat} {os1 os2 : OsState} {a C : Addr} (I1 : L2.Inv X pins σ H1 ⟨hp, g1, d1, t1, os1⟩)
    (ha : hp.objs.size ≤ a) (k : ∀ b o, hp.get? b = some o → hp2.get? b = some o) (un : Un (frs X.stack) [] (upd H1 a (exo a C none)) H2 hp2 h2) (hok : HOk X.prog X.w H2 h2) (ho : os2 = os1) (hb : AllBare g2)
    (ea : H2 a = some (exo a C none)) :
    ∃ (t0 : Addr) (G : Heap), L2.Inv X pins σ (del H2 a) ⟨G, g2, d2, t2, os2⟩ ∧ (∀ b o, G.get? b = some o → h2.get? b = some o) ∧ G.get? a = none ∧
      h2.get? a = some ({ cls := .ref C, dict := none, data := .fields #[.ref t0, .none, .none, .none, .bool false, .none] } : Obj) ∧ (del H2 a) a = none := by
  obtain ⟨t0, hoe⟩ := exo_at hok ea
  have hn : H1 a = none := I1.hok.fresh ha
  obtain ⟨G, g1', g2'⟩ := restrict h2 fun b => decide (b ≠ a)
  have gk : ∀ b, b ≠ a → G.get? b = h2.get? b := fun b hb => g1' b (decide_eq_true hb)
  have ge : G.get? a = none := g2' a (by simp)
  have nha : ∀ {b : Addr} {o : Obj}, hp.get? b = some o → b ≠ a := fun {b o} z => Nat.ne_of_lt (Nat.lt_of_lt_of_le (Heap.lt_size z) ha)
  have up : ∀ {b : Addr}, b ≠ a → H1 b = none → upd H1 a (exo a C none) b = none := fun {b} hb n => by rw [upd_ne hb]; exact n
  have U : Un (frs X.stack) [] H1 (del H2 a) hp G := {
    keep := fun b o z n hf hx => by
      rw [gk b (nha z)]
      exact un.keep b o (k b o z) (up (nha z) n) hf hx
    slot := fun b o z n hf hx => by
      rw [gk b (nha z)]
      exact un.slot b o (k b o z) (up (nha z) n) hf hx
    free := fun b o z n hx => by
      rw [del_ne (nha z)]
      exact un.free b o (k b o z) (up (nha z) n) hx
    there := fun b o z hx => by
      rw [gk b (nha z)]
      exact un.there b o (k b o z) hx
    tups := fun b xs z => by
      rw [del_ne (ne_of_none z hn)]
      exact un.tups b xs (by rw [upd_ne (ne_of_none z hn)]; exact z)
    frzs := fun b o v z => by
      rw [del_ne (ne_of_none z hn)]
      exact un.frzs b o v (by rw [upd_ne (ne_of_none z hn)]; exact z)
    tbls := fun b ps z => by
      rw [del_ne (ne_of_none z hn)]
      exact un.tbls b ps (by rw [upd_ne (ne_of_none z hn)]; exact z) }
  have hok3 : HOk X.prog X.w (del H2 a) G := fun b o z => by
    have hba : b ≠ a := fun e => by
      rw [e, del_same] at z
      cases z
    rw [del_ne hba] at z
    have noa : ∀ {c : Addr}, H2 c = some (.own b) → c ≠ a := fun {c} hc => at_ne ea hc exo_own
    exact (hok b o z).stay (fun c v hc y => by
        have hca : c ≠ a := by
          rcases hc with hc | hc
          · rw [hc]
            exact hba
          · exact noa hc
        rw [gk c hca]
        exact y)
      (fun c hc => by rw [del_ne (noa hc)]; exact hc) (fun c xs hc => by rw [del_ne (at_ne ea hc exo_tup)]; exact hc)
  have J : L2.Inv X pins σ (del H2 a) ⟨G, g2, d2, t2, os2⟩ := I1.call' (ch := []) ho U hok3 hb (fun b z => absurd z (by simp))
  refine ⟨t0, G, J, fun b o z => ?_, ge, hoe, del_same⟩
  by_cases hba : b = a
  · rw [hba, ge] at z
    cases z
  · exact (gk b hba).symm.trans z
open PyProof.Rows PySem.Spec in
theorem pmk_oexN {CX : CXT} {x : Str} {C fI : Addr} {k : Nat} {fd : FuncData} {ps : List Str} {sp : Sp} {p : Pos} (T : OexC X.K C) (iC : PySem.W.findIn X.K (.ref C) "__init__" = some (some (.ref fI))) (tI : PySem.W.typeIn X.K (.ref fI) = some (.type "function"))
    (F1 : FnOk X.prog X.w X.K X.mg X.base CX k fI fd ps sp) (hr : Room (k + 1) X.A) (hb : Binds X.K fd ps []) (hx : Passes CX X (fun _ _ _ => False)) (hg : Gl X x) (hm : X.mg x = some (.ref C))
    (hdb : (x == ("__debug__" : Str)) = false := by decide) :
    PMk X (.Call (.Name x p) [] [] pos) (tMkN C sp) := by
  intro pins s σ H Q I q1
  obtain ⟨nm, q, N, bs, bm, sn, sub, ab, col, dd, k0, k1, k2, k3, k5, hC, hbm⟩ := T.cls
  refine wpAny_Call_Name_kw (ld_glob I hg hm ?_ hdb)
  refine PySem.W.callWith_K0 I.kIn T.kC ?_
  show wpAny _ _ (call (.ref C) []) _ _ _
  obtain ⟨hp, g, dr, tk, os⟩ := s
  have hsz : hp.objs.size ≤ hp.objs.size + 1 := Nat.le_succ _
  have hn : H (hp.objs.size + 1) = none := I.hok.fresh hsz
  have hq := q1 (hp.objs.size + 1) hn
  have kk : ∀ b o, hp.get? b = some o → ((hp.push (PySem.W.kdv_tup [])).push (PySem.HandSPX.excO C hp.objs.size)).get? b = some o := fun b o e => Heap.get?_push_of_some _ (Heap.get?_push_of_some _ e)
  have hget : ((hp.push (PySem.W.kdv_tup [])).push (PySem.HandSPX.excO C hp.objs.size)).get? (hp.objs.size + 1) = some (PySem.HandSPX.excO C hp.objs.size) := by heap_get
  have I2 : L2.Inv X pins σ (upd H (hp.objs.size + 1) (exo (hp.objs.size + 1) C none)) ⟨(hp.push (PySem.W.kdv_tup [])).push (PySem.HandSPX.excO C hp.objs.size), g, dr, tk, os⟩ :=
    I.laid (t' := tk) (a := hp.objs.size + 1) (o := exo (hp.objs.size + 1) C none) (h' := (hp.push (PySem.W.kdv_tup [])).push (PySem.HandSPX.excO C hp.objs.size)) kk hsz (exo_ok hget)
  have r2 : Vals [V.ref (hp.objs.size + 1)] [Value.ref (hp.objs.size + 1)] := .cons rfl .nil
  have hl : ([Value.ref (hp.objs.size + 1)] : List Value).length = ps.length := by
    have e := r2.length
    rw [F1.len _ _ _ _ hq] at e
    exact e.symm
  refine wpAny_call (PySem.HandSPX.call_own F.excBase_ValueError (fun Y => PySem.HandSPX.refsVE_contains Y bm hbm) (I.kIn _ _ hC) (PySem.W.looks_findIn I.kIn iC) (fun self => PySem.W.bind_fn I.kIn self tI) (by simp)
    (codeAny_mono (F1.run _ X.stack _ _ ⟨[Value.ref (hp.objs.size + 1)], []⟩ ([Value.ref (hp.objs.size + 1)] ++ []) _ _ (fun _ _ _ => False) (hr.make C [] []) (I2.env0.make C [] []) (hb _ [Value.ref (hp.objs.size + 1)] I2.kIn hl) (r2.append .nil) hq) fun r s' hq' => ?_))
  cases r with
  | error er => exact hx pins σ _ _ er s' I2 hq'
  | ok fl =>
    cases fl with
    | ret u =>
      obtain ⟨v, H2, os2, bare2, un2, hok2, rv, ev, ea, q2⟩ := hq'
      subst ev
      obtain ⟨h2, g2, d2, t2, os'⟩ := s'
      refine ⟨rv, ?_⟩
      obtain ⟨t0, G, J, kG, ge, hoe, na⟩ := mk_endN (d2 := d2) (t2 := t2) I hsz kk un2 hok2 os2 bare2 ea
      exact ⟨hp.objs.size + 1, _, _, ⟨G, g2, d2, t2, os'⟩, _, .ref C, none, rfl, J, kG, ge, hoe, ⟨rfl, rfl⟩, rfl, rfl, na, rfl, bare2, raises_own T.exC T.tyC, q2⟩
    | next => exact False.elim hq'
    | brk => exact False.elim hq'
    | cont => exact False.elim hq'
end

theorem del_upd {H : Hp} {a : Addr} {o : HO} (h : H a = none) : del (upd H a o) a = H := by
  funext b
  by_cases hb : b = a
  · rw [hb, del_same, h]
  · rw [del_ne hb, upd_ne hb]
/-- isinstance of what the suite holds -/
theorem call_isE2 {X : Cx} {a : Addr} {oe : Obj} {cls : Value} {d : Option Addr} {pn : List (Addr × Obj)} (hz : Zc cls d oe) (hf : ∃ vs, oe.data = .fields vs) :
    CallR (X.suite a ((a, oe) :: pn)) (.builtin "isinstance") (fun xs H Q => ∃ (D C : Addr) (b : Bool), cls = .ref D ∧ d = none ∧ ExcC X.K D ∧ xs = [.ref a, .ref C] ∧ PySem.W.kitOne X.K (.ref D) (.ref C) = some b ∧ Q (.bl b) H) := by
  intro pins s σ H xs us Q I r h
  obtain ⟨D, C, b, rfl, rfl, E, rfl, hk, q⟩ := h
  exact call_isE E hz hf pins s σ H _ us Q I r ⟨.ref C, .ref C, b, rfl, fun u h => h, hk, q⟩
structure Xc (K : PySem.W.Frag) (mg : Str → Option Value) (x : Str) : Type where
  C : Addr
  m : mg x = some (.ref C)
  oex : OexC K C
  ex : ExcC K C
structure Bc (K : PySem.W.Frag) (mg : Str → Option Value) (x : Str) : Type where
  C : Addr
  m : mg x = some (.ref C)
  mc : Value
  rd : ClX.CRead K C mc
  cv : PySem.W.findCls K (.ref C) mc "__init__" = some (.val (.builtin "ValueError.__init__"))
structure Xi (K : PySem.W.Frag) (C : Addr) (qual : Str) (st : Stmt) (ps : List Str) : Type where
  f : Addr
  fd : FuncData
  F : Fun K "__init__" qual st f fd
  b : Binds K fd ps []
  iC : PySem.W.findIn K (.ref C) "__init__" = some (some (.ref f))
  tI : PySem.W.typeIn K (.ref f) = some (.type "function")

theorem kit_self {K : PySem.W.Frag} {t : Value} : PySem.W.kitOne K t t = some true := by
  unfold PySem.W.kitOne; rw [if_pos (beq_self_eq_true _)]
theorem kit_sub {K : PySem.W.Frag} {t : Value} {C : Addr} {b : Bool} (ne : (t == Value.ref C) = false) (h2 : PySem.W.isClsIn K C = true) (h3 : PySem.W.typeIn K (.ref C) = some (.type "type")) (h4 : PySem.W.subIn K t (.ref C) = some b) : PySem.W.kitOne K t (.ref C) = some b := by
  unfold PySem.W.kitOne PySem.W.kitCls
  have h2' : (PySem.W.clsIn K C).isSome = true := h2
  rw [if_neg (by rw [ne]; decide)]
  dsimp only
  rw [if_pos (by rw [h2', h3]; rfl)]
  exact h4

/-- C() of a class without any __init__ -/
structure Mk0 (K : PySem.W.Frag) (C : Addr) : Prop where
  makes : PySem.W.makesIn K C = true
  init : PySem.W.findIn K (.ref C) "__init__" = some (some (.builtin "object.__init__"))
  top : PySem.W.mroIn K C (.type "object") = some true
  kp : PySem.W.keepIn K (.ref C) = true
section
variable {X : Cx} {C : Addr} {x : Str} {p pos : Pos}
open PySem.W PySem.Calls PyProof.Rows NwA in
theorem run_make00 {pins : List (Addr × Obj)} {σ : L2.St} {H : Hp} {s : Shared} {Q : VK} (M : Mk0 X.K C) (I : L2.Inv X pins σ H s)
    (h : ∀ x dx, H x = Option.none → H dx = Option.none → dx ≠ x → Q (.ref x) (upd (upd H dx (.own x)) x (.ins C dx []))) : wpAny (model X.prog X.w) X.A (PySem.call (.ref C) []) (EP X pins σ Q) X.xe s := by
  have hq := h (s.heap.objs.size + 1) s.heap.objs.size (I.hok.fresh (Nat.le_succ _)) (I.hok.fresh (Nat.le_refl _)) (Nat.ne_of_lt (Nat.lt_succ_self _))
  have I2 := Inv.made (C := C) I
  refine wpAny_call (make_map0 I.kIn M.makes M.init (fun self => Looks.of_pure (oi_bind _)) ?_)
  have ho : ((s.heap.push PySem.W.emptyDict).push (PySem.W.instObj C s.heap.objs.size)).get? (s.heap.objs.size + 1) = some (PySem.W.instObj C s.heap.objs.size) := by
    have := Heap.get?_push_size (s.heap.push PySem.W.emptyDict) (o := PySem.W.instObj C s.heap.objs.size) rfl
    rwa [Heap.size_push] at this
  have t1 : Looks (model X.prog X.w) ((s.heap.push PySem.W.emptyDict).push (PySem.W.instObj C s.heap.objs.size)) (typeOf (.ref (s.heap.objs.size + 1))) (.ref C) := type_at ho rfl
  have t2 : Looks (model X.prog X.w) ((s.heap.push PySem.W.emptyDict).push (PySem.W.instObj C s.heap.objs.size)) (isInstance (.ref (s.heap.objs.size + 1)) (.type "object")) true := t1.andThen (looks_mroIn I2.kIn M.top)
  refine codeAny_call_builtin oi_plain entry_oi (@check_slot _ _ _ _ "object.__init__" "object" "__init__" (.ref (s.heap.objs.size + 1)) [] [] _ oi_kind oi_split t2 (oi_args_any _ [] []) ?_)
  rw [oi_run]
  exact wpAny_pure ⟨rfl, ⟨V.ref (s.heap.objs.size + 1), _, I2, rfl, hq⟩⟩
def tMake00 (C : Addr) : TE := fun _ H Q => ∀ x dx, H x = none → H dx = none → dx ≠ x → Q (.ref x) (upd (upd H dx (.own x)) x (.ins C dx []))
theorem pe_make00 (M : Mk0 X.K C) (hg : Gl X x) (hm : X.mg x = some (.ref C)) (hdb : (x == ("__debug__" : Str)) = false := by decide) : PE X (.Call (.Name x p) [] [] pos) (tMake00 C) := by
  refine ⟨fun pins s σ H Q I h => ?_⟩
  refine wpAny_Call_Name_kw (ld_glob I hg hm ?_ hdb)
  exact PySem.W.callWith_K0 I.kIn M.kp (run_make00 M I h)
/-- one of two readings -/
theorem pe_alt {e : Expr} {t u : TE} (h1 : PE X e t) (h2 : PE X e u) : PE X e (fun σ H Q => t σ H Q ∨ u σ H Q) :=
  ⟨fun pins s σ H Q I h => h.elim (h1.run pins s σ H Q I) (h2.run pins s σ H Q I)⟩
end

theorem free2 {H : Hp} {dx x : Addr} {o : HO} (hne : dx ≠ x) (hx : H x = none) : upd H dx o x = none := by rw [upd_ne (fun z => hne z.symm)]; exact hx
/-- a method of one of several classes -/
def MAlt (X : Cx) (CX : CXT) (m : Str) (C : Addr) (sp : Sp) : Prop :=
  ∃ f fd ps k, Cls X.K C ∧ Meth X.K C m f ∧ FnOk X.prog X.w X.K X.mg X.base CX k f fd ps sp ∧ Room k X.A ∧ Binds X.K fd ps []
def tMethA (R : Addr → Sp → Prop) (m : Str) (E : XK) (ta : TE) (t : TA) : TE := fun σ H Q => ta σ H fun x H1 => ∃ a dx fs C sp, x = .ref a ∧ R C sp ∧ H1 a = some (.ins C dx fs) ∧ fs.lookup m = none ∧ t σ H1 fun vs H2 => sp (.ref a :: vs) H2 Q E
section
variable {X : Cx} {CX : CXT} {E : XK} {R : Addr → Sp → Prop} {o e : Expr} {es : List Expr} {m : Str} {apos pos : Pos} {ta : TE} {t : TA}
theorem pe_methA {pl : Sem Bool} (he : PE X o ta) (hall : ∀ C sp, R C sp → MAlt X CX m C sp) (hx : Passes CX X E) (ha : PA X (e :: es) t)
    (hst : starEach (e :: es) X.env = (false, eval e X.env) :: starEach es X.env := by rfl) (hpl : (backTo pos (starEach es X.env)).any (·.1) = false := by rfl)
    (ht : eval (.Call (.Attribute o m apos) (e :: es) [] pos) X.env = (do
      let ov ← eval o X.env
      standAt apos.atName
      let (f, first) ← holding [ov] (getMethod ov m pl)
      callWith pos f first (backTo pos (starEach (e :: es) X.env)) (backToKw pos (keywordEach [] X.env))) := by rfl) :
    PE X (.Call (.Attribute o m apos) (e :: es) [] pos) (tMethA R m E ta t) := by
  refine ⟨fun pins s σ H Q I h => ?_⟩
  refine PySem.W.methodCall_KW (pl := pl) (thn (he.run pins s σ H _ I h) fun u s1 ⟨x, H1, I1, rx, a, dx, fs, C, sp, ex, hr, ea, l, q⟩ => ?_) ht
  obtain ⟨f, fd, ps, k, c, hm, F, hr, hb⟩ := hall C sp hr
  subst ex
  obtain rfl : u = Value.ref a := rx
  refine getmeth_ok I1 ea c hm l ?_
  refine PySem.W.callWith_K (first := [.ref a]) (h₀ := X.base) I.ok.mod.kin hm.kp (thn (ha.run pos pins s1 σ H1 _ I1 q) fun us s2 ⟨vs, H2, I2, r, q2⟩ => ⟨I2.kIn, ?_⟩) hst hpl
  exact run_fn (us := .ref a :: us) (vs := .ref a :: vs) F hr hb .nil hx I2 (.cons rfl r) (by rw [List.append_nil]; exact q2)
theorem pe_methA0 {pl : Sem Bool} (he : PE X o ta) (hall : ∀ C sp, R C sp → MAlt X CX m C sp) (hx : Passes CX X E)
    (ht : eval (.Call (.Attribute o m apos) [] [] pos) X.env = (do
      let ov ← eval o X.env
      standAt apos.atName
      let (f, first) ← holding [ov] (getMethod ov m pl)
      callWith pos f first (backTo pos (starEach [] X.env)) (backToKw pos (keywordEach [] X.env))) := by rfl) :
    PE X (.Call (.Attribute o m apos) [] [] pos) (tMethA R m E ta tNil) := by
  refine ⟨fun pins s σ H Q I h => ?_⟩
  refine PySem.W.methodCall_KW (pl := pl) (thn (he.run pins s σ H _ I h) fun u s1 ⟨x, H1, I1, rx, a, dx, fs, C, sp, ex, hr, ea, l, q⟩ => ?_) ht
  obtain ⟨f, fd, ps, k, c, hm, F, hr, hb⟩ := hall C sp hr
  subst ex
  obtain rfl : u = Value.ref a := rx
  refine getmeth_ok I1 ea c hm l ?_
  exact PySem.W.callWith_K0 (first := [.ref a]) I1.kIn hm.kp (run_fn (us := [.ref a]) (vs := [.ref a]) F hr hb .nil hx I1 (.cons rfl .nil) q)
end
theorem mal_one {X : Cx} {CX : CXT} {m : Str} {C0 : Addr} {sp0 : Sp} (h : MAlt X CX m C0 sp0) : ∀ C sp, (C = C0 ∧ sp = sp0) → MAlt X CX m C sp := by
  rintro _ _ ⟨rfl, rfl⟩; exact h
theorem mal_or {X : Cx} {CX : CXT} {m : Str} {R1 R2 : Addr → Sp → Prop} (h1 : ∀ C sp, R1 C sp → MAlt X CX m C sp) (h2 : ∀ C sp, R2 C sp → MAlt X CX m C sp) : ∀ C sp, (R1 C sp ∨ R2 C sp) → MAlt X CX m C sp :=
  fun C sp h => h.elim (h1 C sp) (h2 C sp)
/-- a class of the text whose instances are made -/
structure Kc (K : PySem.W.Frag) (mg : Str → Option Value) (x : Str) : Type where
  C : Addr
  m : mg x = some (.ref C)
  cl : Cls K C
structure Dm (K : PySem.W.Frag) (x qual : Str) (st : Stmt) (ps : List Str) : Type where
  f : Addr
  fd : FuncData
  F : Fun K x qual st f fd
  b : Binds K fd ps []

end Ow
namespace Ow
open PySem L2
local macro_rules | `(tactic| walk_at "ob") => `(tactic| first | assumption | omega | exact ⟨by omega, by omega⟩ | exact ⟨by omega, by omega, by omega⟩ | exact Ow.divw64 (by omega) (by omega) | exact Or.inl ⟨by omega, by omega⟩ | exact Or.inr ⟨by omega, by omega⟩)
inductive F_Way where
  | Down
  | Up
  | Cut
  | Near
def wrd_Way : F_Way → Str
  | .Down => "down"
  | .Up => "up"
  | .Cut => "cut"
  | .Near => "near"
/-- whether a quotient goes up by one -/
def adj (w : F_Way) (q r d : Int) (neg : Bool) : Bool := match w with
  | .Down => neg && decide (0 < r)
  | .Up => decide (0 < r) && !neg
  | .Cut => false
  | .Near => if r = d - r then decide (q % 2 = 1) else decide (d - r < r)
/-- what t / b is rounded to -/
def rnd (w : F_Way) (t b : Int) : Int :=
  if t < 0 then 0 - (if adj w ((-t) / b) ((-t) % b) b true = true then (-t) / b + 1 else (-t) / b)
  else (if adj w (t / b) (t % b) b false = true then t / b + 1 else t / b)
theorem rnd_neg {w : F_Way} {t b a q r : Int} {z : Bool} (h : t < 0) (ha : a = if t < 0 then -t else t) (hq : q = a / b) (hr : r = a % b) (hz : adj w q r b (decide (t < 0)) = z) : rnd w t b = 0 - (if z = true then q + 1 else q) := by
  rw [if_pos h] at ha
  rw [decide_eq_true h] at hz
  unfold rnd
  rw [if_pos h, ← ha, ← hq, ← hr, hz]
theorem rnd_pos {w : F_Way} {t b a q r : Int} {z : Bool} (h : ¬ t < 0) (ha : a = if t < 0 then -t else t) (hq : q = a / b) (hr : r = a % b) (hz : adj w q r b (decide (t < 0)) = z) : rnd w t b = if z = true then q + 1 else q := by
  rw [if_neg h] at ha
  rw [decide_eq_false h] at hz
  unfold rnd
  rw [if_neg h, ← ha, ← hq, ← hr, hz]
/-- where the rounded number lies -/
def Lies (w : F_Way) (t b f : Int) : Prop := match w with
  | .Down => -b < f * b - t ∧ f * b - t ≤ 0
  | .Up => 0 ≤ f * b - t ∧ f * b - t < b
  | .Cut => (0 ≤ t → -b < f * b - t ∧ f * b - t ≤ 0) ∧ (t < 0 → 0 ≤ f * b - t ∧ f * b - t < b)
  | .Near => (2 * (f * b - t) < b ∧ 2 * (t - f * b) < b) ∨ ((2 * (f * b - t) = b ∨ 2 * (t - f * b) = b) ∧ f % 2 = 0)
theorem lies {w : F_Way} {t b : Int} (hb : 0 < b) : Lies w t b (rnd w t b) := by
  unfold rnd
  by_cases h : t < 0
  · rw [if_pos h]
    have e := Int.ediv_mul_add_emod (-t) b
    have r0 := Int.emod_nonneg (-t) (show b ≠ 0 by omega)
    have r1 := Int.emod_lt_of_pos (-t) hb
    generalize (-t) / b = q at *
    generalize (-t) % b = r at *
    have m1 : (0 - (q + 1)) * b = -(q * b) - b := by rw [Int.sub_mul, Int.add_mul]; omega
    have m2 : (0 - q) * b = -(q * b) := by rw [Int.sub_mul]; omega
    cases w <;> unfold adj Lies
    · by_cases hr : 0 < r
      · simp only [hr, decide_true, Bool.and_self, if_true, m1]; omega
      · simp only [hr, decide_false, Bool.and_false, Bool.false_eq_true, if_false, m2]; omega
    · simp only [Bool.not_true, Bool.and_false, Bool.false_eq_true, if_false, m2]; omega
    · simp only [Bool.false_eq_true, if_false, m2]; omega
    · by_cases h1 : r = b - r
      · rw [if_pos h1]
        by_cases h2 : q % 2 = 1
        · simp only [h2, decide_true, if_true, m1]; omega
        · simp only [h2, decide_false, Bool.false_eq_true, if_false, m2]; omega
      · rw [if_neg h1]
        by_cases h2 : b - r < r
        · simp only [h2, decide_true, if_true, m1]; omega
        · simp only [h2, decide_false, Bool.false_eq_true, if_false, m2]; omega
  · rw [if_neg h]
    have e := Int.ediv_mul_add_emod t b
    have r0 := Int.emod_nonneg t (show b ≠ 0 by omega)
    have r1 := Int.emod_lt_of_pos t hb
    generalize t / b = q at *
    generalize t % b = r at *
    have m1 : (q + 1) * b = q * b + b := by rw [Int.add_mul]; omega
    cases w <;> unfold adj Lies
    · simp only [Bool.false_and, Bool.false_eq_true, if_false]; omega
    · by_cases hr : 0 < r
      · simp only [hr, decide_true, Bool.not_false, Bool.and_self, if_true, m1]; omega
      · simp only [hr, decide_false, Bool.false_and, Bool.false_eq_true, if_false]; omega
    · simp only [Bool.false_eq_true, if_false]; omega
    · by_cases h1 : r = b - r
      · rw [if_pos h1]
        by_cases h2 : q % 2 = 1
        · simp only [h2, decide_true, if_true, m1]; omega
        · simp only [h2, decide_false, Bool.false_eq_true, if_false]; omega
      · rw [if_neg h1]
        by_cases h2 : b - r < r
        · simp only [h2, decide_true, if_true, m1]; omega
        · simp only [h2, decide_false, Bool.false_eq_true, if_false]; omega
theorem adj_scale {w : F_Way} {q r d m : Int} {n : Bool} (hm : 0 < m) : adj w q (r * m) (d * m) n = adj w q r d n := by
  have e1 : (0 < r * m) ↔ (0 < r) := by
    constructor
    · intro h
      by_cases z : 0 < r
      · exact z
      · have := Int.mul_nonpos_of_nonpos_of_nonneg (show r ≤ 0 by omega) (show 0 ≤ m by omega)
        omega
    · intro h; exact Int.mul_pos h hm
  have e2 : (r * m = d * m - r * m) ↔ (r = d - r) := by
    rw [← Int.sub_mul]
    constructor
    · intro h; exact Int.eq_of_mul_eq_mul_right (by omega) h
    · intro h; rw [← h]
  have e3 : (d * m - r * m < r * m) ↔ (d - r < r) := by
    rw [← Int.sub_mul]
    constructor
    · intro h; exact Int.lt_of_mul_lt_mul_right h (by omega)
    · intro h; exact Int.mul_lt_mul_of_pos_right h hm
  cases w <;> unfold adj
  · rw [decide_eq_decide.mpr e1]
  · rw [decide_eq_decide.mpr e1]
  · rfl
  · by_cases h : r = d - r
    · rw [if_pos h, if_pos (e2.mpr h)]
    · rw [if_neg h, if_neg (fun z => h (e2.mp z)), decide_eq_decide.mpr e3]
theorem rnd_scale {w : F_Way} {t b m : Int} (hb : 0 < b) (hm : 0 < m) : rnd w (t * m) (b * m) = rnd w t b := by
  have e1 : ∀ a : Int, a * m / (b * m) = a / b := fun a => Int.mul_ediv_mul_of_pos_left a b hm
  have e2 : ∀ a : Int, a * m % (b * m) = a % b * m := fun a => by rw [Int.mul_comm a m, Int.mul_comm b m, Int.mul_emod_mul_of_pos _ _ hm, Int.mul_comm]
  have e3 : (t * m < 0) ↔ (t < 0) := by
    constructor
    · intro h
      by_cases z : t < 0
      · exact z
      · have := Int.mul_nonneg (show 0 ≤ t by omega) (show 0 ≤ m by omega)
        omega
    · intro h; exact Int.mul_neg_of_neg_of_pos h hm
  unfold rnd
  by_cases h : t < 0
  · rw [if_pos h, if_pos (e3.mpr h), ← Int.neg_mul, e1, e2, adj_scale hm]
  · rw [if_neg h, if_neg (fun z => h (e3.mp z)), e1, e2, adj_scale hm]

theorem rnd_q {w : F_Way} {q r d : Int} {n : Int} (hd : 0 < d) (q0 : 0 ≤ q) (r0 : 0 ≤ r) (r1 : r < d) (hn : (n = 1 ∧ adj w q r d false = true) ∨ (n = 0 ∧ adj w q r d false = false)) : rnd w (q * d + r) d = q + n := by
  have t0 : 0 ≤ q * d := Int.mul_nonneg q0 (by omega)
  have e1 : (q * d + r) / d = q := by rw [Int.add_comm, Int.add_mul_ediv_right _ _ (by omega), Int.ediv_eq_zero_of_lt r0 r1, Int.zero_add]
  have e2 : (q * d + r) % d = r := by rw [Int.add_comm, Int.add_mul_emod_self_right, Int.emod_eq_of_lt r0 r1]
  unfold rnd
  rw [if_neg (by omega), e1, e2]
  rcases hn with ⟨rfl, h⟩ | ⟨rfl, h⟩ <;> rw [h] <;> simp
theorem rnd_qn {w : F_Way} {q r d : Int} {n : Int} (hd : 0 < d) (q0 : 0 ≤ q) (r0 : 0 ≤ r) (r1 : r < d) (hn : (n = 1 ∧ adj w q r d true = true) ∨ (n = 0 ∧ adj w q r d true = false)) : rnd w (0 - (q * d + r)) d = 0 - (q + n) := by
  have t0 : 0 ≤ q * d := Int.mul_nonneg q0 (by omega)
  have e1 : (q * d + r) / d = q := by rw [Int.add_comm, Int.add_mul_ediv_right _ _ (by omega), Int.ediv_eq_zero_of_lt r0 r1, Int.zero_add]
  have e2 : (q * d + r) % d = r := by rw [Int.add_comm, Int.add_mul_emod_self_right, Int.emod_eq_of_lt r0 r1]
  by_cases z : q * d + r = 0
  · have hr : r = 0 := by omega
    have hq : q = 0 := by
      have : q * d = 0 := by omega
      rcases Int.mul_eq_zero.mp this with h | h
      · exact h
      · omega
    subst hr hq
    have a : ∀ s : Bool, adj w 0 0 d s = false := fun s => by
      cases w <;> unfold adj
      · simp
      · simp
      · rfl
      · rw [if_neg (by omega)]; exact decide_eq_false (by omega)
    rw [a] at hn
    have hn0 : n = 0 := by rcases hn with ⟨_, h⟩ | ⟨h, _⟩; cases h; exact h
    rw [hn0, z]
    unfold rnd
    rw [if_neg (by omega), Int.sub_zero, Int.zero_ediv, Int.zero_emod, a]
    simp
  · unfold rnd
    rw [if_pos (by omega), show -(0 - (q * d + r)) = q * d + r by omega, e1, e2]
    rcases hn with ⟨rfl, h⟩ | ⟨rfl, h⟩ <;> rw [h] <;> simp
theorem lies_q {w : F_Way} {q r d : Int} {n : Int} (hd : 0 < d) (q0 : 0 ≤ q) (r0 : 0 ≤ r) (r1 : r < d) (hn : (n = 1 ∧ adj w q r d false = true) ∨ (n = 0 ∧ adj w q r d false = false)) : Lies w (q * d + r) d (q + n) :=
  rnd_q hd q0 r0 r1 hn ▸ lies hd
theorem lies_qn {w : F_Way} {q r d : Int} {n : Int} (hd : 0 < d) (q0 : 0 ≤ q) (r0 : 0 ≤ r) (r1 : r < d) (hn : (n = 1 ∧ adj w q r d true = true) ∨ (n = 0 ∧ adj w q r d true = false)) : Lies w (0 - (q * d + r)) d (0 - (q + n)) :=
  rnd_qn hd q0 r0 r1 hn ▸ lies hd

def top (i : Nat) : Stmt := PySem.Challenge.pw_overwise_k15_adjusted.main.body.getD i (.Pass ⟨0, 0, 0, 0⟩)
abbrev s_all_ways : Stmt := top 10
theorem sc_all_ways : FnScope [] [] (defScope s_all_ways) := ⟨rfl, rfl, rfl, by decide +kernel, rfl, by decide +kernel, by decide +kernel⟩
abbrev s_way_of : Stmt := top 11
theorem sc_way_of : FnScope ["word"] ["word"] (defScope s_way_of) := ⟨rfl, rfl, rfl, by decide +kernel, rfl, by decide +kernel, by decide +kernel⟩
abbrev s_l_begun : Stmt := top 14
theorem sc_l_begun : FnScope ["_law_cell_here", "_law_rest_here"] ["_law_cell_here"] (defScope s_l_begun) := ⟨rfl, rfl, rfl, by decide +kernel, rfl, by decide +kernel, by decide +kernel⟩
abbrev s_l_draw : Stmt := top 15
theorem sc_l_draw : FnScope ["_law_state", "_law_many", "_law_found", "_law_number_here"] ["_law_state", "_law_many"] (defScope s_l_draw) := ⟨rfl, rfl, rfl, by decide +kernel, rfl, by decide +kernel, by decide +kernel⟩
abbrev s_l_number : Stmt := top 16
theorem sc_l_number : FnScope ["_law_state", "_law_way", "_law_number_here"] ["_law_state"] (defScope s_l_number) := ⟨rfl, rfl, rfl, by decide +kernel, rfl, by decide +kernel, by decide +kernel⟩
abbrev s_l_rest : Stmt := top 18
theorem sc_l_rest : FnScope ["_law_state", "_law_divisor", "_law_way"] ["_law_state", "_law_divisor"] (defScope s_l_rest) := ⟨rfl, rfl, rfl, by decide +kernel, rfl, by decide +kernel, by decide +kernel⟩
abbrev s_l_cell : Stmt := top 13
theorem sc_l_cell : FnScope ["_law_script", "_law_k", "_law_number_here"] ["_law_script", "_law_k"] (defScope s_l_cell) := ⟨rfl, rfl, rfl, by decide +kernel, rfl, by decide +kernel, by decide +kernel⟩
abbrev s_Down_adjust : Stmt := inClass (top 6) 1
theorem sc_Down_adjust : FnScope ["self", "quotient", "rest", "divisor", "negative"] ["self", "quotient", "rest", "divisor", "negative"] (defScope s_Down_adjust) := ⟨rfl, rfl, rfl, by decide +kernel, rfl, by decide +kernel, by decide +kernel⟩
abbrev s_Up_adjust : Stmt := inClass (top 7) 1
theorem sc_Up_adjust : FnScope ["self", "quotient", "rest", "divisor", "negative"] ["self", "quotient", "rest", "divisor", "negative"] (defScope s_Up_adjust) := ⟨rfl, rfl, rfl, by decide +kernel, rfl, by decide +kernel, by decide +kernel⟩
abbrev s_Way_adjust : Stmt := inClass (top 5) 1
theorem sc_Way_adjust : FnScope ["self", "quotient", "rest", "divisor", "negative"] ["self", "quotient", "rest", "divisor", "negative"] (defScope s_Way_adjust) := ⟨rfl, rfl, rfl, by decide +kernel, rfl, by decide +kernel, by decide +kernel⟩
abbrev s_Near_adjust : Stmt := inClass (top 9) 2
theorem sc_Near_adjust : FnScope ["self", "quotient", "rest", "divisor", "negative"] ["self", "quotient", "rest", "divisor", "negative"] (defScope s_Near_adjust) := ⟨rfl, rfl, rfl, by decide +kernel, rfl, by decide +kernel, by decide +kernel⟩
abbrev s_l_right : Stmt := top 17
theorem sc_l_right : FnScope ["_law_word", "_law_top", "_law_bottom", "_law_found", "_law_miss"] ["_law_word", "_law_top", "_law_bottom", "_law_found"] (defScope s_l_right) := ⟨rfl, rfl, rfl, by decide +kernel, rfl, by decide +kernel, by decide +kernel⟩
abbrev s_l_asked : Stmt := top 19
theorem sc_l_asked : FnScope ["_law_word", "_law_way", "_law_quotient", "_law_rest_here", "_law_divisor", "_law_negative", "_law_found", "_law_top", "_law_told"] ["_law_word", "_law_way", "_law_quotient", "_law_rest_here", "_law_divisor", "_law_negative"] (defScope s_l_asked) := ⟨rfl, rfl, rfl, by decide +kernel, rfl, by decide +kernel, by decide +kernel⟩
abbrev s_Way_rounded : Stmt := inClass (top 5) 3
theorem sc_Way_rounded : FnScope ["self", "top", "bottom", "quotient", "rest"] ["self", "top", "bottom"] (defScope s_Way_rounded) := ⟨rfl, rfl, rfl, by decide +kernel, rfl, by decide +kernel, by decide +kernel⟩
abbrev s_law : Stmt := top 20
theorem sc_law : FnScope ["_law_script", "_law_words", "_law_ways", "_law_k", "_law_state", "_law_divisor", "_law_quotient", "_law_rest_here", "_law_turn", "_law_j", "_law_at", "_law_top", "_law_word"] ["_law_script"] (defScope s_law) := ⟨rfl, rfl, rfl, by decide +kernel, rfl, by decide +kernel, by decide +kernel⟩
structure Tx (K : PySem.W.Frag) (mg : Str → Option Value) : Type where
  k_Cut : Ow.Kc K mg "Cut"
  k_Down : Ow.Kc K mg "Down"
  k_Near : Ow.Kc K mg "Near"
  k_Up : Ow.Kc K mg "Up"
  m0_Cut : Ow.Mk0 K k_Cut.C
  m0_Down : Ow.Mk0 K k_Down.C
  m0_Near : Ow.Mk0 K k_Near.C
  m0_Up : Ow.Mk0 K k_Up.C
  d_all_ways : Ow.Dk K mg "all_ways" "all_ways" s_all_ways []
  d_way_of : Ow.Dk K mg "way_of" "way_of" s_way_of ["word"]
  d_l_begun : Ow.Dk K mg "_law_begun" "_law_begun" s_l_begun ["_law_cell_here"]
  d_l_draw : Ow.Dk K mg "_law_draw" "_law_draw" s_l_draw ["_law_state", "_law_many"]
  d_l_number : Ow.Dk K mg "_law_number" "_law_number" s_l_number ["_law_state"]
  d_l_rest : Ow.Dk K mg "_law_rest" "_law_rest" s_l_rest ["_law_state", "_law_divisor"]
  d_l_cell : Ow.Dk K mg "_law_cell" "_law_cell" s_l_cell ["_law_script", "_law_k"]
  d_Down_adjust : Ow.Dm K "adjust" "Down.adjust" s_Down_adjust ["self", "quotient", "rest", "divisor", "negative"]
  mt_Down_adjust : Meth K k_Down.C "adjust" d_Down_adjust.f
  d_Up_adjust : Ow.Dm K "adjust" "Up.adjust" s_Up_adjust ["self", "quotient", "rest", "divisor", "negative"]
  mt_Up_adjust : Meth K k_Up.C "adjust" d_Up_adjust.f
  d_Way_adjust : Ow.Dm K "adjust" "Way.adjust" s_Way_adjust ["self", "quotient", "rest", "divisor", "negative"]
  mt_Cut_adjust : Meth K k_Cut.C "adjust" d_Way_adjust.f
  d_Near_adjust : Ow.Dm K "adjust" "Near.adjust" s_Near_adjust ["self", "quotient", "rest", "divisor", "negative"]
  mt_Near_adjust : Meth K k_Near.C "adjust" d_Near_adjust.f
  d_l_right : Ow.Dk K mg "_law_right" "_law_right" s_l_right ["_law_word", "_law_top", "_law_bottom", "_law_found"]
  d_l_asked : Ow.Dk K mg "_law_asked" "_law_asked" s_l_asked ["_law_word", "_law_way", "_law_quotient", "_law_rest_here", "_law_divisor", "_law_negative"]
  d_Way_rounded : Ow.Dm K "rounded" "Way.rounded" s_Way_rounded ["self", "top", "bottom"]
  mt_Cut_rounded : Meth K k_Cut.C "rounded" d_Way_rounded.f
  mt_Down_rounded : Meth K k_Down.C "rounded" d_Way_rounded.f
  mt_Near_rounded : Meth K k_Near.C "rounded" d_Way_rounded.f
  mt_Up_rounded : Meth K k_Up.C "rounded" d_Way_rounded.f
  d_law : Ow.Dk K mg "law" "law" s_law ["_law_script"]
  z_isinstance : mg "isinstance" = none
  z_str : mg "str" = none
  z_max : mg "max" = none
  z_min : mg "min" = none
  z_abs : mg "abs" = none
  z_len : mg "len" = none
  z_bool : mg "bool" = none
  z_int : mg "int" = none
  z_divmod : mg "divmod" = none
  z_range : mg "range" = none
def cls_Way {K : PySem.W.Frag} {mg : Str → Option Value} (T : Tx K mg) : F_Way → Addr
  | .Down => T.k_Down.C
  | .Up => T.k_Up.C
  | .Cut => T.k_Cut.C
  | .Near => T.k_Near.C
def ix_Way : F_Way → Int
  | .Down => 0
  | .Up => 1
  | .Cut => 2
  | .Near => 3
theorem ixo_Way {K : PySem.W.Frag} {mg : Str → Option Value} (T : Tx K mg) {H : Hp} {Q : VK} {a : Addr} {o0 d0 o1 d1 o2 d2 o3 d3 : Addr} {i : Int} (h : SqL K H a [.ref o0, .ref o1, .ref o2, .ref o3]) (h0 : H o0 = some (.ins T.k_Down.C d0 [])) (h1 : H o1 = some (.ins T.k_Up.C d1 [])) (h2 : H o2 = some (.ins T.k_Cut.C d2 [])) (h3 : H o3 = some (.ins T.k_Near.C d3 [])) (hi : 0 ≤ i ∧ i < 4)
    (q : ∀ wy o dx, i = ix_Way wy → H o = some (.ins (cls_Way T wy) dx []) → Q (.ref o) H) : rIxL K (.ref a) (.int i) H Q := by
  obtain ⟨n, rfl⟩ : ∃ n : Nat, i = n := ⟨i.toNat, by omega⟩
  have : n = 0 ∨ n = 1 ∨ n = 2 ∨ n = 3 := by omega
  rcases this with rfl | rfl | rfl | rfl
  · exact ⟨a, _, _, .ref o0, rfl, rfl, h, atI_nat (j := 0) rfl, q .Down _ _ rfl h0⟩
  · exact ⟨a, _, _, .ref o1, rfl, rfl, h, atI_nat (j := 1) rfl, q .Up _ _ rfl h1⟩
  · exact ⟨a, _, _, .ref o2, rfl, rfl, h, atI_nat (j := 2) rfl, q .Cut _ _ rfl h2⟩
  · exact ⟨a, _, _, .ref o3, rfl, rfl, h, atI_nat (j := 3) rfl, q .Near _ _ rfl h3⟩
def sp_all_ways {K : PySem.W.Frag} {mg : Str → Option Value} (T : Tx K mg) : Sp := fun vs H Q E => vs = [] ∧ (∀ aq, H aq = none → Q (.ref aq) (upd H aq (.lst [.str ("down"), .str ("up"), .str ("cut"), .str ("near")])))
def sp_way_of {K : PySem.W.Frag} {mg : Str → Option Value} (T : Tx K mg) : Sp := fun vs H Q E => ∃ (word : Str) (wy : Ow.F_Way), vs = [.str word] ∧ (word = Ow.wrd_Way wy) ∧ (∀ aq dq H', Same H H' → H aq = none → H' aq = some (.ins (Ow.cls_Way T wy) dq []) → Q (.ref aq) H')
def sp_l_begun {K : PySem.W.Frag} {mg : Str → Option Value} (T : Tx K mg) : Sp := fun vs H Q E => ∃ (cell : Int), vs = [.int cell] ∧ (∀ (a : Int), ∀ (n : Int), ∀ aq, H aq = none → Q (.ref aq) (upd H aq (.lst [.int (a), .int (0), .int (n)])))
def sp_l_draw {K : PySem.W.Frag} {mg : Str → Option Value} (T : Tx K mg) : Sp := fun vs H Q E => ∃ (box : Addr) (many : Int) (a : Int) (n : Int) (c : Int), vs = [.ref box, .int many] ∧ H box = some (.lst [.int (a), .int (n), .int (c)]) ∧ (0 < many) ∧ (many ≤ 18446744073709551616) ∧ (∀ (r : Int), ∀ (a2 : Int), ∀ (n2 : Int), (0 ≤ r) → (r < many) → Q (.int (r)) (upd H box (.lst [.int (a2), .int (n2), .int (c)])))
def sp_l_number {K : PySem.W.Frag} {mg : Str → Option Value} (T : Tx K mg) : Sp := fun vs H Q E => ∃ (box : Addr) (a : Int) (n : Int) (c : Int), vs = [.ref box] ∧ H box = some (.lst [.int (a), .int (n), .int (c)]) ∧ (∀ (r : Int), ∀ (a2 : Int), ∀ (n2 : Int), (Ow.Sz 2340 r) → Q (.int (r)) (upd H box (.lst [.int (a2), .int (n2), .int (c)])))
def sp_l_rest {K : PySem.W.Frag} {mg : Str → Option Value} (T : Tx K mg) : Sp := fun vs H Q E => ∃ (box : Addr) (divisor : Int) (a : Int) (n : Int) (c : Int), vs = [.ref box, .int divisor] ∧ H box = some (.lst [.int (a), .int (n), .int (c)]) ∧ (0 < divisor) ∧ Ow.Sz 2340 divisor ∧ (∀ (r : Int), ∀ (a2 : Int), ∀ (n2 : Int), (0 ≤ r) → (r < divisor) → (Ow.Sz 2345 r) → ∀ H', Ow.Fm box H H' → H' box = some (.lst [.int (a2), .int (n2), .int (c)]) → Q (.int (r)) H')
def sp_l_cell {K : PySem.W.Frag} {mg : Str → Option Value} (T : Tx K mg) : Sp := fun vs H Q E => ∃ (script : Addr) (k : Int) (ns : List Int), vs = [.ref script, .int k] ∧ SqL K H script (ns.map V.int) ∧ (0 ≤ k) ∧ (k < 100) ∧ (∀ (x : Int), Q (.int (x)) H)
def sp_Down_adjust {K : PySem.W.Frag} {mg : Str → Option Value} (T : Tx K mg) : Sp := fun vs H Q E => ∃ (self : Addr) (quotient : Int) (rest : Int) (divisor : Int) (negative : Bool) (dx_self : Addr), vs = [.ref self, .int quotient, .int rest, .int divisor, .bl negative] ∧ H self = some (.ins (T.k_Down.C) dx_self []) ∧ (Q (.bl (Ow.adj .Down quotient rest divisor negative)) H)
def sp_Up_adjust {K : PySem.W.Frag} {mg : Str → Option Value} (T : Tx K mg) : Sp := fun vs H Q E => ∃ (self : Addr) (quotient : Int) (rest : Int) (divisor : Int) (negative : Bool) (dx_self : Addr), vs = [.ref self, .int quotient, .int rest, .int divisor, .bl negative] ∧ H self = some (.ins (T.k_Up.C) dx_self []) ∧ (Q (.bl (Ow.adj .Up quotient rest divisor negative)) H)
def sp_Way_adjust {K : PySem.W.Frag} {mg : Str → Option Value} (T : Tx K mg) : Sp := fun vs H Q E => ∃ (self : Addr) (quotient : Int) (rest : Int) (divisor : Int) (negative : Bool) (dx_self : Addr), vs = [.ref self, .int quotient, .int rest, .int divisor, .bl negative] ∧ H self = some (.ins (T.k_Cut.C) dx_self []) ∧ (Q (.bl (Ow.adj .Cut quotient rest divisor negative)) H)
def sp_Near_adjust {K : PySem.W.Frag} {mg : Str → Option Value} (T : Tx K mg) : Sp := fun vs H Q E => ∃ (self : Addr) (quotient : Int) (rest : Int) (divisor : Int) (negative : Bool) (dx_self : Addr), vs = [.ref self, .int quotient, .int rest, .int divisor, .bl negative] ∧ H self = some (.ins (T.k_Near.C) dx_self []) ∧ (Q (.bl (Ow.adj .Near quotient rest divisor negative)) H)
def sp_l_right {K : PySem.W.Frag} {mg : Str → Option Value} (T : Tx K mg) : Sp := fun vs H Q E => ∃ (word : Str) (top : Int) (bottom : Int) (found : Int) (wy : Ow.F_Way), vs = [.str word, .int top, .int bottom, .int found] ∧ (word = Ow.wrd_Way wy) ∧ (0 < bottom) ∧ (Ow.Lies wy top bottom found) ∧ Ow.Sz 6000 top ∧ Ow.Sz 6000 bottom ∧ Ow.Sz 6000 found ∧ (Q (.bl (true)) H)
def sp_l_asked {K : PySem.W.Frag} {mg : Str → Option Value} (T : Tx K mg) : Sp := fun vs H Q E => ∃ (word : Str) (way : Addr) (quotient : Int) (rest : Int) (divisor : Int) (negative : Bool) (wy : Ow.F_Way) (dx_way : Addr), vs = [.str word, .ref way, .int quotient, .int rest, .int divisor, .bl negative] ∧ (word = Ow.wrd_Way wy) ∧ H way = some (.ins (Ow.cls_Way T wy) dx_way []) ∧ (0 ≤ quotient) ∧ (0 ≤ rest) ∧ (rest < divisor) ∧ Ow.Sz 2350 quotient ∧ Ow.Sz 2345 rest ∧ Ow.Sz 2340 divisor ∧ (∀ H', Same H H' → Q (.bl (true)) H')
def sp_Way_rounded {K : PySem.W.Frag} {mg : Str → Option Value} (T : Tx K mg) : Sp := fun vs H Q E => ∃ (self : Addr) (top : Int) (bottom : Int) (wy : Ow.F_Way) (dx_self : Addr), vs = [.ref self, .int top, .int bottom] ∧ H self = some (.ins (Ow.cls_Way T wy) dx_self []) ∧ Ow.Sz 4000 top ∧ (0 < bottom) ∧ Ow.Sz 4000 bottom ∧ (∀ (f : Int), (f = Ow.rnd wy top bottom) → (Ow.Sz 4002 f) → ∀ H', Same H H' → Q (.int (f)) H')
def sp_law (K : PySem.W.Frag) : Sp := fun vs H Q E => ∃ (script : Addr) (ns : List Int), vs = [.ref script] ∧ SqL K H script (ns.map V.int) ∧ (ns.length ≤ 63) ∧ (∀ H', Same H H' → Q (.bl (true)) H')
section
variable {P : Program} {w : World} {K : PySem.W.Frag} {mg : Str → Option Value} {base : Heap}
theorem ok_all_ways (T : Tx K mg) : FnOk P w K mg base CX0 1 T.d_all_ways.f T.d_all_ways.fd [] (sp_all_ways T) := by
  refine T.d_all_ways.F.ok sc_all_ways (fun vs H Q E h => ?_) (fun cdv A outer s H vs Q E hr h => ?_)
  · obtain ⟨rfl, _⟩ := h
    rfl
  · obtain ⟨rfl, kont⟩ := h
    refine ⟨_, (pss_one (ps_ret (pe_lst (pa_cons pe_str (pa_cons pe_str (pa_cons pe_str (pa_cons pe_str pa_nil))))))), ?_⟩
    refine ⟨by show 4 ≤ sizeLine; decide, fun p h_p => ?_⟩
    exact kont _ h_p
theorem ok_way_of (T : Tx K mg) : FnOk P w K mg base CX0 3 T.d_way_of.f T.d_way_of.fd ["word"] (sp_way_of T) := by
  refine T.d_way_of.F.ok sc_way_of (fun vs H Q E h => ?_) (fun cdv A outer s H vs Q E hr h => ?_)
  · obtain ⟨word, wy, rfl, _⟩ := h
    rfl
  · obtain ⟨word, wy, rfl, c0, kont⟩ := h
    refine ⟨_, (pss_cons (ps_if (PW.pt (pw_or (pt_not (pt_val (pe_callB call_isi (by rfl) T.z_isinstance (by decide +kernel) (pa_cons (pv 0) (pa_cons (pe_bltn (v := .ty "str") (by rfl) T.z_str (by decide +kernel) rfl) pa_nil))))) (pw_or1 (pt_cmpR op_notIn_seq (pv 0) (pe_call0 (Ow.ok_all_ways T) (hr.mono (by decide : 1 ≤ 2)) (by rfl) T.d_all_ways.m T.d_all_ways.F.kp T.d_all_ways.b .nil pass0) rfl)))) (pss_one ps_never) pss_nil)
        (pss_cons (ps_if (pt_cmpR op_eq (pv 0) pe_str (nomark _)) (pss_one (ps_ret (Ow.pe_make00 T.m0_Down (by rfl) T.k_Down.m))) pss_nil)
        (pss_cons (ps_if (pt_cmpR op_eq (pv 0) pe_str (nomark _)) (pss_one (ps_ret (Ow.pe_make00 T.m0_Up (by rfl) T.k_Up.m))) pss_nil)
        (pss_cons (ps_if (pt_cmpR op_eq (pv 0) pe_str (nomark _)) (pss_one (ps_ret (Ow.pe_make00 T.m0_Cut (by rfl) T.k_Cut.m))) pss_nil)
        (pss_one (ps_ret (Ow.pe_make00 T.m0_Near (by rfl) T.k_Near.m))))))), ?_⟩
    cases wy
    · obtain rfl : word = "down" := by assumption
      refine ⟨_, rfl, ?_⟩
      refine ⟨_, _, _, _, true, rfl, .ty _, .base (.str _), kit_ty (by decide +kernel), ?_⟩
      refine ⟨_, rfl, ?_⟩
      refine iteF ?_
      refine ⟨_, rfl, ?_⟩
      refine ⟨rfl, fun p h_p => ?_⟩
      refine ⟨_, _, rfl, .inl (SqL.of upd_same), rfl, rfl, ?_⟩
      refine ⟨false, by decide +kernel, ?_⟩
      refine iteF ?_
      refine ⟨_, rfl, ?_⟩
      refine ⟨rfl, ?_⟩
      refine ⟨_, rfl, ?_⟩
      refine Ow.ifeqs (fun _ => ?_) (fun h => absurd rfl h)
      intro o dx h1 h2 h3
      exact kont _ _ _ (((Ow.same_new h_p).trans (Ow.same_new h2)).trans (Ow.same_new (Ow.free2 h3 h1))) (Same.free (Ow.same_new h_p) h1) upd_same
    · obtain rfl : word = "up" := by assumption
      refine ⟨_, rfl, ?_⟩
      refine ⟨_, _, _, _, true, rfl, .ty _, .base (.str _), kit_ty (by decide +kernel), ?_⟩
      refine ⟨_, rfl, ?_⟩
      refine iteF ?_
      refine ⟨_, rfl, ?_⟩
      refine ⟨rfl, fun p_2 h_p_2 => ?_⟩
      refine ⟨_, _, rfl, .inl (SqL.of upd_same), rfl, rfl, ?_⟩
      refine ⟨false, by decide +kernel, ?_⟩
      refine iteF ?_
      refine ⟨_, rfl, ?_⟩
      refine ⟨rfl, ?_⟩
      refine ⟨_, rfl, ?_⟩
      refine Ow.ifeqs (fun h => absurd h (by decide +kernel)) (fun _ => ?_)
      refine ⟨_, rfl, ?_⟩
      refine ⟨rfl, ?_⟩
      refine ⟨_, rfl, ?_⟩
      refine Ow.ifeqs (fun _ => ?_) (fun h => absurd rfl h)
      intro o_2 dx_2 h4 h5 h6
      exact kont _ _ _ (((Ow.same_new h_p_2).trans (Ow.same_new h5)).trans (Ow.same_new (Ow.free2 h6 h4))) (Same.free (Ow.same_new h_p_2) h4) upd_same
    · obtain rfl : word = "cut" := by assumption
      refine ⟨_, rfl, ?_⟩
      refine ⟨_, _, _, _, true, rfl, .ty _, .base (.str _), kit_ty (by decide +kernel), ?_⟩
      refine ⟨_, rfl, ?_⟩
      refine iteF ?_
      refine ⟨_, rfl, ?_⟩
      refine ⟨rfl, fun p_3 h_p_3 => ?_⟩
      refine ⟨_, _, rfl, .inl (SqL.of upd_same), rfl, rfl, ?_⟩
      refine ⟨false, by decide +kernel, ?_⟩
      refine iteF ?_
      refine ⟨_, rfl, ?_⟩
      refine ⟨rfl, ?_⟩
      refine ⟨_, rfl, ?_⟩
      refine Ow.ifeqs (fun h => absurd h (by decide +kernel)) (fun _ => ?_)
      refine ⟨_, rfl, ?_⟩
      refine ⟨rfl, ?_⟩
      refine ⟨_, rfl, ?_⟩
      refine Ow.ifeqs (fun h => absurd h (by decide +kernel)) (fun _ => ?_)
      refine ⟨_, rfl, ?_⟩
      refine ⟨rfl, ?_⟩
      refine ⟨_, rfl, ?_⟩
      refine Ow.ifeqs (fun _ => ?_) (fun h => absurd rfl h)
      intro o_3 dx_3 h7 h8 h9
      exact kont _ _ _ (((Ow.same_new h_p_3).trans (Ow.same_new h8)).trans (Ow.same_new (Ow.free2 h9 h7))) (Same.free (Ow.same_new h_p_3) h7) upd_same
    · obtain rfl : word = "near" := by assumption
      refine ⟨_, rfl, ?_⟩
      refine ⟨_, _, _, _, true, rfl, .ty _, .base (.str _), kit_ty (by decide +kernel), ?_⟩
      refine ⟨_, rfl, ?_⟩
      refine iteF ?_
      refine ⟨_, rfl, ?_⟩
      refine ⟨rfl, fun p_4 h_p_4 => ?_⟩
      refine ⟨_, _, rfl, .inl (SqL.of upd_same), rfl, rfl, ?_⟩
      refine ⟨false, by decide +kernel, ?_⟩
      refine iteF ?_
      refine ⟨_, rfl, ?_⟩
      refine ⟨rfl, ?_⟩
      refine ⟨_, rfl, ?_⟩
      refine Ow.ifeqs (fun h => absurd h (by decide +kernel)) (fun _ => ?_)
      refine ⟨_, rfl, ?_⟩
      refine ⟨rfl, ?_⟩
      refine ⟨_, rfl, ?_⟩
      refine Ow.ifeqs (fun h => absurd h (by decide +kernel)) (fun _ => ?_)
      refine ⟨_, rfl, ?_⟩
      refine ⟨rfl, ?_⟩
      refine ⟨_, rfl, ?_⟩
      refine Ow.ifeqs (fun h => absurd h (by decide +kernel)) (fun _ => ?_)
      intro o_4 dx_4 h10 h11 h12
      exact kont _ _ _ (((Ow.same_new h_p_4).trans (Ow.same_new h11)).trans (Ow.same_new (Ow.free2 h12 h10))) (Same.free (Ow.same_new h_p_4) h10) upd_same
theorem ok_l_begun (T : Tx K mg) : FnOk P w K mg base CX0 1 T.d_l_begun.f T.d_l_begun.fd ["_law_cell_here"] (sp_l_begun T) := by
  refine T.d_l_begun.F.ok sc_l_begun (fun vs H Q E h => ?_) (fun cdv A outer s H vs Q E hr h => ?_)
  · obtain ⟨cell, rfl, _⟩ := h
    rfl
  · obtain ⟨cell, rfl, kont⟩ := h
    refine ⟨_, (pss_cons (ps_set (i := 1) sc_l_begun.nd rfl (Or.inl rfl) pe_int)
        (pss_cons (ps_if (pt_cmpR op_ge (pv 0) (Ow.pe_lit (1000000000000000000) (pe_op op_pow pe_int pe_int)) (nomark _)) (pss_one (ps_set (i := 1) sc_l_begun.nd rfl (Or.inl rfl) (pv 0))) pss_nil)
        (pss_one (ps_ret (pe_lst (pa_cons (pv 1) (pa_cons pe_int (pa_cons (pe_op Ow.op_modN (pv 0) pe_int) pa_nil)))))))), ?_⟩
    refine ⟨_, rfl, ?_⟩
    refine ⟨_, _, rfl, rfl, ⟨by decide, by decide, by decide⟩, ?_⟩
    refine ⟨by decide, ?_⟩
    refine ⟨_, _, rfl, rfl, ?_⟩
    refine ⟨_, rfl, ?_⟩
    refine Ow.ifd (fun h1 => ?_) (fun h1 => ?_)
    · refine ⟨_, rfl, ?_⟩
      refine ⟨_, rfl, ?_⟩
      refine ⟨_, rfl, ?_⟩
      refine ⟨_, _, rfl, rfl, (by first | assumption | exact Ow.divw64 (by omega) (by omega) | exact Ow.mul0 ⟨by omega, by omega⟩ | exact Ow.mul1 ⟨by omega, by omega⟩ | exact Ow.shl0 (by omega) (by omega) (by omega) | exact ⟨by omega, by omega⟩ | exact ⟨by omega, by omega, by omega⟩ | omega | (simp only [List.length_append, List.length_cons, List.length_nil]; omega) | (subst_vars; omega)), fun r h_r h0_r h1_r => ?_⟩
      refine ⟨by show 3 ≤ sizeLine; decide, fun p h_p => ?_⟩
      exact kont cell r _ h_p
    · refine ⟨_, rfl, ?_⟩
      refine ⟨_, rfl, ?_⟩
      refine ⟨_, _, rfl, rfl, (by first | assumption | exact Ow.divw64 (by omega) (by omega) | exact Ow.mul0 ⟨by omega, by omega⟩ | exact Ow.mul1 ⟨by omega, by omega⟩ | exact Ow.shl0 (by omega) (by omega) (by omega) | exact ⟨by omega, by omega⟩ | exact ⟨by omega, by omega, by omega⟩ | omega | (simp only [List.length_append, List.length_cons, List.length_nil]; omega) | (subst_vars; omega)), fun r_2 h_r_2 h0_r_2 h1_r_2 => ?_⟩
      refine ⟨by show 3 ≤ sizeLine; decide, fun p_2 h_p_2 => ?_⟩
      exact kont 0 r_2 _ h_p_2
theorem ok_l_draw (T : Tx K mg) : FnOk P w K mg base CX0 1 T.d_l_draw.f T.d_l_draw.fd ["_law_state", "_law_many"] (sp_l_draw T) := by
  refine T.d_l_draw.F.ok sc_l_draw (fun vs H Q E h => ?_) (fun cdv A outer s H vs Q E hr h => ?_)
  · obtain ⟨box, many, a, n, c, rfl, _⟩ := h
    rfl
  · obtain ⟨box, many, a, n, c, rfl, c0, c1, c2, kont⟩ := h
    refine ⟨_, (pss_cons (ps_if (pt_cmpR op_gt (pe_ix ix_list (pv 0) pe_int (fun _ _ => rfl)) pe_int (nomark _)) (pss_cons (ps_set (i := 2) sc_l_draw.nd rfl (Or.inl rfl) (pe_op Ow.op_modN (pe_ix ix_list (pv 0) pe_int (fun _ _ => rfl)) (pv 1)))
        (pss_cons (ps_asg (pe_op Ow.op_divN (pe_ix ix_list (pv 0) pe_int (fun _ _ => rfl)) (pv 1)) (pg_sub (pv 0) pe_int set_list))
        (pss_one (ps_ret (pv 2))))) pss_nil)
        (pss_cons (ps_asg (Ow.pe_nmi (pe_op op_add (pe_ix ix_list (pv 0) pe_int (fun _ _ => rfl)) pe_int)) (pg_sub (pv 0) pe_int set_list))
        (pss_cons (ps_set (i := 3) sc_l_draw.nd rfl (Or.inl rfl) (pe_op Ow.op_modN (pe_op op_add (pe_op Ow.op_mulN (pe_ix ix_list (pv 0) pe_int (fun _ _ => rfl)) pe_int) (pe_op Ow.op_mulN (pe_ix ix_list (pv 0) pe_int (fun _ _ => rfl)) pe_int)) pe_int))
        (pss_cons (ps_set (i := 3) sc_l_draw.nd rfl (Or.inl rfl) (pe_op Ow.op_modN (pe_op op_add (pe_op Ow.op_mulN (pv 3) (pv 3)) (pe_op Ow.op_mulN (pe_ix ix_list (pv 0) pe_int (fun _ _ => rfl)) pe_int)) pe_int))
        (pss_one (ps_ret (pe_op Ow.op_modN (pe_op Ow.op_modN (pe_op Ow.op_mulN (pv 3) (pv 3)) pe_int) (pv 1)))))))), ?_⟩
    refine ⟨_, rfl, ?_⟩
    refine ⟨_, _, _, _, rfl, rfl, (SqL.of c0), (by first | rfl | decide), ?_⟩
    refine ⟨_, _, rfl, rfl, ?_⟩
    refine ⟨_, rfl, ?_⟩
    refine Ow.ifd (fun h1 => ?_) (fun h1 => ?_)
    · refine ⟨_, rfl, ?_⟩
      refine ⟨_, _, _, _, rfl, rfl, (SqL.of c0), (by first | rfl | decide), ?_⟩
      refine ⟨_, rfl, ?_⟩
      refine ⟨_, _, rfl, rfl, (by first | assumption | exact Ow.divw64 (by omega) (by omega) | exact Ow.mul0 ⟨by omega, by omega⟩ | exact Ow.mul1 ⟨by omega, by omega⟩ | exact Ow.shl0 (by omega) (by omega) (by omega) | exact ⟨by omega, by omega⟩ | exact ⟨by omega, by omega, by omega⟩ | omega | (simp only [List.length_append, List.length_cons, List.length_nil]; omega) | (subst_vars; omega)), fun l_found h_l_found h0_l_found h1_l_found => ?_⟩
      refine ⟨_, rfl, ?_⟩
      refine ⟨_, _, _, _, rfl, rfl, (SqL.of c0), (by first | rfl | decide), ?_⟩
      refine ⟨_, rfl, ?_⟩
      refine ⟨_, _, rfl, rfl, (by first | assumption | exact Ow.divw64 (by omega) (by omega) | exact Ow.mul0 ⟨by omega, by omega⟩ | exact Ow.mul1 ⟨by omega, by omega⟩ | exact Ow.shl0 (by omega) (by omega) (by omega) | exact ⟨by omega, by omega⟩ | exact ⟨by omega, by omega, by omega⟩ | omega | (simp only [List.length_append, List.length_cons, List.length_nil]; omega) | (subst_vars; omega)), fun q h_q => ?_⟩
      refine ⟨_, rfl, ?_⟩
      refine ⟨_, _, _, 0, rfl, rfl, c0, rfl, ?_⟩
      refine ⟨_, rfl, ?_⟩
      exact kont l_found q n (by first | assumption | exact Ow.divw64 (by omega) (by omega) | exact Ow.mul0 ⟨by omega, by omega⟩ | exact Ow.mul1 ⟨by omega, by omega⟩ | exact Ow.shl0 (by omega) (by omega) (by omega) | exact ⟨by omega, by omega⟩ | exact ⟨by omega, by omega, by omega⟩ | omega | (simp only [List.length_append, List.length_cons, List.length_nil]; omega) | (subst_vars; omega)) (by first | assumption | exact Ow.divw64 (by omega) (by omega) | exact Ow.mul0 ⟨by omega, by omega⟩ | exact Ow.mul1 ⟨by omega, by omega⟩ | exact Ow.shl0 (by omega) (by omega) (by omega) | exact ⟨by omega, by omega⟩ | exact ⟨by omega, by omega, by omega⟩ | omega | (simp only [List.length_append, List.length_cons, List.length_nil]; omega) | (subst_vars; omega))
    · refine ⟨_, rfl, ?_⟩
      refine ⟨_, _, _, _, rfl, rfl, (SqL.of c0), (by first | rfl | decide), ?_⟩
      refine ⟨_, _, rfl, rfl, ?_⟩
      refine ⟨_, rfl, fun t h_t => ?_⟩
      refine ⟨_, rfl, ?_⟩
      refine ⟨_, _, _, 1, rfl, rfl, c0, rfl, ?_⟩
      refine ⟨_, rfl, ?_⟩
      refine ⟨_, _, _, _, rfl, rfl, (SqL.of upd_same), (by first | rfl | decide), ?_⟩
      refine ⟨_, _, rfl, rfl, (by first | assumption | exact Ow.divw64 (by omega) (by omega) | exact Ow.mul0 ⟨by omega, by omega⟩ | exact Ow.mul1 ⟨by omega, by omega⟩ | exact Ow.shl0 (by omega) (by omega) (by omega) | exact ⟨by omega, by omega⟩ | exact ⟨by omega, by omega, by omega⟩ | omega | (simp only [List.length_append, List.length_cons, List.length_nil]; omega) | (subst_vars; omega)), fun m h_m => ?_⟩
      refine ⟨_, rfl, ?_⟩
      refine ⟨_, _, _, _, rfl, rfl, (SqL.of upd_same), (by first | rfl | decide), ?_⟩
      refine ⟨_, _, rfl, rfl, (by first | assumption | exact Ow.divw64 (by omega) (by omega) | exact Ow.mul0 ⟨by omega, by omega⟩ | exact Ow.mul1 ⟨by omega, by omega⟩ | exact Ow.shl0 (by omega) (by omega) (by omega) | exact ⟨by omega, by omega⟩ | exact ⟨by omega, by omega, by omega⟩ | omega | (simp only [List.length_append, List.length_cons, List.length_nil]; omega) | (subst_vars; omega)), fun m_2 h_m_2 => ?_⟩
      refine ⟨_, _, rfl, rfl, ?_⟩
      refine ⟨_, _, rfl, rfl, (by first | assumption | exact Ow.divw64 (by omega) (by omega) | exact Ow.mul0 ⟨by omega, by omega⟩ | exact Ow.mul1 ⟨by omega, by omega⟩ | exact Ow.shl0 (by omega) (by omega) (by omega) | exact ⟨by omega, by omega⟩ | exact ⟨by omega, by omega, by omega⟩ | omega | (simp only [List.length_append, List.length_cons, List.length_nil]; omega) | (subst_vars; omega)), fun l_number_here h_l_number_here h0_l_number_here h1_l_number_here => ?_⟩
      refine ⟨_, rfl, ?_⟩
      refine ⟨_, rfl, ?_⟩
      refine ⟨_, _, rfl, rfl, (.inr (Ow.mulx (Ow.Sz.md h0_l_number_here h1_l_number_here (Ow.Sz.lit (n := 31) (i := 2147483647) (by decide))) (Ow.Sz.md h0_l_number_here h1_l_number_here (Ow.Sz.lit (n := 31) (i := 2147483647) (by decide))) (by decide))), fun m_3 h_m_3 => ?_⟩
      have z_m_3 : Ow.Sz 62 m_3 := by rw [h_m_3]; exact (Ow.Sz.mul (Ow.Sz.md h0_l_number_here h1_l_number_here (Ow.Sz.lit (n := 31) (i := 2147483647) (by decide))) (Ow.Sz.md h0_l_number_here h1_l_number_here (Ow.Sz.lit (n := 31) (i := 2147483647) (by decide))))
      refine ⟨_, rfl, ?_⟩
      refine ⟨_, _, _, _, rfl, rfl, (SqL.of upd_same), (by first | rfl | decide), ?_⟩
      refine ⟨_, _, rfl, rfl, (by first | assumption | exact Ow.divw64 (by omega) (by omega) | exact Ow.mul0 ⟨by omega, by omega⟩ | exact Ow.mul1 ⟨by omega, by omega⟩ | exact Ow.shl0 (by omega) (by omega) (by omega) | exact ⟨by omega, by omega⟩ | exact ⟨by omega, by omega, by omega⟩ | omega | (simp only [List.length_append, List.length_cons, List.length_nil]; omega) | (subst_vars; omega)), fun m_4 h_m_4 => ?_⟩
      refine ⟨_, _, rfl, rfl, ?_⟩
      refine ⟨_, _, rfl, rfl, (by first | assumption | exact Ow.divw64 (by omega) (by omega) | exact Ow.mul0 ⟨by omega, by omega⟩ | exact Ow.mul1 ⟨by omega, by omega⟩ | exact Ow.shl0 (by omega) (by omega) (by omega) | exact ⟨by omega, by omega⟩ | exact ⟨by omega, by omega, by omega⟩ | omega | (simp only [List.length_append, List.length_cons, List.length_nil]; omega) | (subst_vars; omega)), fun l_number_here_2 h_l_number_here_2 h0_l_number_here_2 h1_l_number_here_2 => ?_⟩
      refine ⟨_, rfl, ?_⟩
      refine ⟨_, rfl, ?_⟩
      refine ⟨_, _, rfl, rfl, (.inr (Ow.mulx (Ow.Sz.md h0_l_number_here_2 h1_l_number_here_2 (Ow.Sz.lit (n := 31) (i := 2147483629) (by decide))) (Ow.Sz.md h0_l_number_here_2 h1_l_number_here_2 (Ow.Sz.lit (n := 31) (i := 2147483629) (by decide))) (by decide))), fun m_5 h_m_5 => ?_⟩
      have z_m_5 : Ow.Sz 62 m_5 := by rw [h_m_5]; exact (Ow.Sz.mul (Ow.Sz.md h0_l_number_here_2 h1_l_number_here_2 (Ow.Sz.lit (n := 31) (i := 2147483629) (by decide))) (Ow.Sz.md h0_l_number_here_2 h1_l_number_here_2 (Ow.Sz.lit (n := 31) (i := 2147483629) (by decide))))
      refine ⟨_, _, rfl, rfl, (by first | assumption | exact Ow.divw64 (by omega) (by omega) | exact Ow.mul0 ⟨by omega, by omega⟩ | exact Ow.mul1 ⟨by omega, by omega⟩ | exact Ow.shl0 (by omega) (by omega) (by omega) | exact ⟨by omega, by omega⟩ | exact ⟨by omega, by omega, by omega⟩ | omega | (simp only [List.length_append, List.length_cons, List.length_nil]; omega) | (subst_vars; omega)), fun r h_r h0_r h1_r => ?_⟩
      refine ⟨_, rfl, ?_⟩
      refine ⟨_, _, rfl, rfl, (by first | assumption | exact Ow.divw64 (by omega) (by omega) | exact Ow.mul0 ⟨by omega, by omega⟩ | exact Ow.mul1 ⟨by omega, by omega⟩ | exact Ow.shl0 (by omega) (by omega) (by omega) | exact ⟨by omega, by omega⟩ | exact ⟨by omega, by omega, by omega⟩ | omega | (simp only [List.length_append, List.length_cons, List.length_nil]; omega) | (subst_vars; omega)), fun r_2 h_r_2 h0_r_2 h1_r_2 => ?_⟩
      exact kont r_2 a t (by first | assumption | exact Ow.divw64 (by omega) (by omega) | exact Ow.mul0 ⟨by omega, by omega⟩ | exact Ow.mul1 ⟨by omega, by omega⟩ | exact Ow.shl0 (by omega) (by omega) (by omega) | exact ⟨by omega, by omega⟩ | exact ⟨by omega, by omega, by omega⟩ | omega | (simp only [List.length_append, List.length_cons, List.length_nil]; omega) | (subst_vars; omega)) (by first | assumption | exact Ow.divw64 (by omega) (by omega) | exact Ow.mul0 ⟨by omega, by omega⟩ | exact Ow.mul1 ⟨by omega, by omega⟩ | exact Ow.shl0 (by omega) (by omega) (by omega) | exact ⟨by omega, by omega⟩ | exact ⟨by omega, by omega, by omega⟩ | omega | (simp only [List.length_append, List.length_cons, List.length_nil]; omega) | (subst_vars; omega))
theorem ok_l_number (T : Tx K mg) : FnOk P w K mg base CX0 2 T.d_l_number.f T.d_l_number.fd ["_law_state"] (sp_l_number T) := by
  refine T.d_l_number.F.ok sc_l_number (fun vs H Q E h => ?_) (fun cdv A outer s H vs Q E hr h => ?_)
  · obtain ⟨box, a, n, c, rfl, _⟩ := h
    rfl
  · obtain ⟨box, a, n, c, rfl, c0, kont⟩ := h
    refine ⟨_, (pss_cons (ps_set (i := 1) sc_l_number.nd rfl (Or.inl rfl) (pe_call (Ow.ok_l_draw T) (hr.mono (by decide : 1 ≤ 1)) (by rfl) T.d_l_draw.m T.d_l_draw.F.kp T.d_l_draw.b .nil pass0 (pa_cons (pv 0) (pa_cons pe_int pa_nil))))
        (pss_cons (ps_if (pt_cmpR op_eq (pv 1) pe_int (nomark _)) (pss_one (ps_set (i := 2) sc_l_number.nd rfl (Or.inl rfl) (pe_call (Ow.ok_l_draw T) (hr.mono (by decide : 1 ≤ 1)) (by rfl) T.d_l_draw.m T.d_l_draw.F.kp T.d_l_draw.b .nil pass0 (pa_cons (pv 0) (pa_cons pe_int pa_nil))))) (pss_one (ps_if (pt_cmpR op_eq (pv 1) pe_int (nomark _)) (pss_one (ps_set (i := 2) sc_l_number.nd rfl (Or.inl rfl) (Ow.pe_nmi (pe_op op_add (pe_op Ow.op_mulN (pe_call (Ow.ok_l_draw T) (hr.mono (by decide : 1 ≤ 1)) (by rfl) T.d_l_draw.m T.d_l_draw.F.kp T.d_l_draw.b .nil pass0 (pa_cons (pv 0) (pa_cons pe_int pa_nil))) (Ow.pe_lit (1000000000) (pe_op op_pow pe_int pe_int))) (pe_call (Ow.ok_l_draw T) (hr.mono (by decide : 1 ≤ 1)) (by rfl) T.d_l_draw.m T.d_l_draw.F.kp T.d_l_draw.b .nil pass0 (pa_cons (pv 0) (pa_cons pe_int pa_nil))))))) (pss_one (ps_if (pt_cmpR op_eq (pv 1) pe_int (nomark _)) (pss_one (ps_set (i := 2) sc_l_number.nd rfl (Or.inl rfl) (Ow.pe_nmi (pe_op op_add (pe_op Ow.op_shlN (pe_call (Ow.ok_l_draw T) (hr.mono (by decide : 1 ≤ 1)) (by rfl) T.d_l_draw.m T.d_l_draw.F.kp T.d_l_draw.b .nil pass0 (pa_cons (pv 0) (pa_cons pe_int pa_nil))) (pe_call (Ow.ok_l_draw T) (hr.mono (by decide : 1 ≤ 1)) (by rfl) T.d_l_draw.m T.d_l_draw.F.kp T.d_l_draw.b .nil pass0 (pa_cons (pv 0) (pa_cons pe_int pa_nil)))) (pe_call (Ow.ok_l_draw T) (hr.mono (by decide : 1 ≤ 1)) (by rfl) T.d_l_draw.m T.d_l_draw.F.kp T.d_l_draw.b .nil pass0 (pa_cons (pv 0) (pa_cons pe_int pa_nil))))))) (pss_one (ps_set (i := 2) sc_l_number.nd rfl (Or.inl rfl) (pe_call (Ow.ok_l_draw T) (hr.mono (by decide : 1 ≤ 1)) (by rfl) T.d_l_draw.m T.d_l_draw.F.kp T.d_l_draw.b .nil pass0 (pa_cons (pv 0) (pa_cons pe_int pa_nil))))))))))
        (pss_cons (ps_if (pt_cmpR op_eq (pe_call (Ow.ok_l_draw T) (hr.mono (by decide : 1 ≤ 1)) (by rfl) T.d_l_draw.m T.d_l_draw.F.kp T.d_l_draw.b .nil pass0 (pa_cons (pv 0) (pa_cons pe_int pa_nil))) pe_int (nomark _)) (pss_one (ps_set (i := 2) sc_l_number.nd rfl (Or.inl rfl) (Ow.pe_nmi (pe_op op_sub pe_int (pv 2))))) pss_nil)
        (pss_one (ps_ret (pv 2)))))), ?_⟩
    refine ⟨_, rfl, ?_⟩
    refine ⟨_, _, _, _, _, rfl, c0, (by first | assumption | exact Ow.divw64 (by omega) (by omega) | exact Ow.mul0 ⟨by omega, by omega⟩ | exact Ow.mul1 ⟨by omega, by omega⟩ | exact Ow.shl0 (by omega) (by omega) (by omega) | exact ⟨by omega, by omega⟩ | exact ⟨by omega, by omega, by omega⟩ | omega | (simp only [List.length_append, List.length_cons, List.length_nil]; omega) | (subst_vars; omega)), (by first | assumption | exact Ow.divw64 (by omega) (by omega) | exact Ow.mul0 ⟨by omega, by omega⟩ | exact Ow.mul1 ⟨by omega, by omega⟩ | exact Ow.shl0 (by omega) (by omega) (by omega) | exact ⟨by omega, by omega⟩ | exact ⟨by omega, by omega, by omega⟩ | omega | (simp only [List.length_append, List.length_cons, List.length_nil]; omega) | (subst_vars; omega)), fun l_way a2 n2 h1 h2 => ?_⟩
    refine ⟨_, rfl, ?_⟩
    refine ⟨rfl, ?_⟩
    refine ⟨_, rfl, ?_⟩
    refine Ow.ifeqi (fun h3 => ?_) (fun h3 => ?_)
    · refine ⟨_, rfl, ?_⟩
      refine ⟨_, _, _, _, _, rfl, upd_same, (by first | assumption | exact Ow.divw64 (by omega) (by omega) | exact Ow.mul0 ⟨by omega, by omega⟩ | exact Ow.mul1 ⟨by omega, by omega⟩ | exact Ow.shl0 (by omega) (by omega) (by omega) | exact ⟨by omega, by omega⟩ | exact ⟨by omega, by omega, by omega⟩ | omega | (simp only [List.length_append, List.length_cons, List.length_nil]; omega) | (subst_vars; omega)), (by first | assumption | exact Ow.divw64 (by omega) (by omega) | exact Ow.mul0 ⟨by omega, by omega⟩ | exact Ow.mul1 ⟨by omega, by omega⟩ | exact Ow.shl0 (by omega) (by omega) (by omega) | exact ⟨by omega, by omega⟩ | exact ⟨by omega, by omega, by omega⟩ | omega | (simp only [List.length_append, List.length_cons, List.length_nil]; omega) | (subst_vars; omega)), fun l_number_here a2_2 n2_2 h4 h5 => ?_⟩
      refine ⟨_, rfl, ?_⟩
      refine ⟨_, _, _, _, _, rfl, upd_same, (by first | assumption | exact Ow.divw64 (by omega) (by omega) | exact Ow.mul0 ⟨by omega, by omega⟩ | exact Ow.mul1 ⟨by omega, by omega⟩ | exact Ow.shl0 (by omega) (by omega) (by omega) | exact ⟨by omega, by omega⟩ | exact ⟨by omega, by omega, by omega⟩ | omega | (simp only [List.length_append, List.length_cons, List.length_nil]; omega) | (subst_vars; omega)), (by first | assumption | exact Ow.divw64 (by omega) (by omega) | exact Ow.mul0 ⟨by omega, by omega⟩ | exact Ow.mul1 ⟨by omega, by omega⟩ | exact Ow.shl0 (by omega) (by omega) (by omega) | exact ⟨by omega, by omega⟩ | exact ⟨by omega, by omega, by omega⟩ | omega | (simp only [List.length_append, List.length_cons, List.length_nil]; omega) | (subst_vars; omega)), fun t a2_3 n2_3 h6 h7 => ?_⟩
      refine ⟨rfl, ?_⟩
      refine ⟨_, rfl, ?_⟩
      refine Ow.ifeqi (fun h8 => ?_) (fun h8 => ?_)
      · refine ⟨_, rfl, ?_⟩
        refine ⟨_, _, rfl, rfl, ?_⟩
        refine ⟨_, rfl, fun l_number_here_2 h_l_number_here_2 => ?_⟩
        have z_l_number_here_2 : Ow.Sz 4 l_number_here_2 := by rw [h_l_number_here_2]; exact (Ow.Sz.sub (Ow.Sz.mono (Ow.Sz.lit (n := 1) (i := 0) (by decide)) (by decide : 1 ≤ 3)) (Ow.Sz.rng (n := 3) h4 h5 (by decide)))
        refine ⟨_, rfl, ?_⟩
        rw [upd_upd, upd_upd]
        exact kont l_number_here_2 a2_3 n2_3 (Ow.Sz.mono z_l_number_here_2 (by decide : 4 ≤ 2340))
      · refine ⟨_, rfl, ?_⟩
        rw [upd_upd, upd_upd]
        exact kont l_number_here a2_3 n2_3 (Ow.Sz.mono (Ow.Sz.rng (n := 3) h4 h5 (by decide)) (by decide : 3 ≤ 2340))
    · refine ⟨_, rfl, ?_⟩
      refine ⟨rfl, ?_⟩
      refine ⟨_, rfl, ?_⟩
      refine Ow.ifeqi (fun h9 => ?_) (fun h9 => ?_)
      · refine ⟨_, rfl, ?_⟩
        refine ⟨_, _, _, _, _, rfl, upd_same, (by first | assumption | exact Ow.divw64 (by omega) (by omega) | exact Ow.mul0 ⟨by omega, by omega⟩ | exact Ow.mul1 ⟨by omega, by omega⟩ | exact Ow.shl0 (by omega) (by omega) (by omega) | exact ⟨by omega, by omega⟩ | exact ⟨by omega, by omega, by omega⟩ | omega | (simp only [List.length_append, List.length_cons, List.length_nil]; omega) | (subst_vars; omega)), (by first | assumption | exact Ow.divw64 (by omega) (by omega) | exact Ow.mul0 ⟨by omega, by omega⟩ | exact Ow.mul1 ⟨by omega, by omega⟩ | exact Ow.shl0 (by omega) (by omega) (by omega) | exact ⟨by omega, by omega⟩ | exact ⟨by omega, by omega, by omega⟩ | omega | (simp only [List.length_append, List.length_cons, List.length_nil]; omega) | (subst_vars; omega)), fun t_2 a2_4 n2_4 h10 h11 => ?_⟩
        refine ⟨_, _, rfl, rfl, ⟨by decide, by decide, by decide⟩, ?_⟩
        refine ⟨by decide, ?_⟩
        refine ⟨_, _, rfl, rfl, (.inr (Ow.mulx (Ow.Sz.rng (n := 20) h10 h11 (by decide)) (Ow.Sz.lit (n := 30) (i := 1000000000) (by decide)) (by decide))), fun m h_m => ?_⟩
        have z_m : Ow.Sz 50 m := by rw [h_m]; exact (Ow.Sz.mul (Ow.Sz.rng (n := 20) h10 h11 (by decide)) (Ow.Sz.lit (n := 30) (i := 1000000000) (by decide)))
        refine ⟨_, rfl, ?_⟩
        refine ⟨_, _, _, _, _, rfl, upd_same, (by first | assumption | exact Ow.divw64 (by omega) (by omega) | exact Ow.mul0 ⟨by omega, by omega⟩ | exact Ow.mul1 ⟨by omega, by omega⟩ | exact Ow.shl0 (by omega) (by omega) (by omega) | exact ⟨by omega, by omega⟩ | exact ⟨by omega, by omega, by omega⟩ | omega | (simp only [List.length_append, List.length_cons, List.length_nil]; omega) | (subst_vars; omega)), (by first | assumption | exact Ow.divw64 (by omega) (by omega) | exact Ow.mul0 ⟨by omega, by omega⟩ | exact Ow.mul1 ⟨by omega, by omega⟩ | exact Ow.shl0 (by omega) (by omega) (by omega) | exact ⟨by omega, by omega⟩ | exact ⟨by omega, by omega, by omega⟩ | omega | (simp only [List.length_append, List.length_cons, List.length_nil]; omega) | (subst_vars; omega)), fun t_3 a2_5 n2_5 h12 h13 => ?_⟩
        refine ⟨_, _, rfl, rfl, ?_⟩
        refine ⟨_, rfl, fun l_number_here_3 h_l_number_here_3 => ?_⟩
        have z_l_number_here_3 : Ow.Sz 51 l_number_here_3 := by rw [h_l_number_here_3]; exact (Ow.Sz.add z_m (Ow.Sz.mono (Ow.Sz.rng (n := 30) h12 h13 (by decide)) (by decide : 30 ≤ 50)))
        refine ⟨_, rfl, ?_⟩
        refine ⟨_, _, _, _, _, rfl, upd_same, (by first | assumption | exact Ow.divw64 (by omega) (by omega) | exact Ow.mul0 ⟨by omega, by omega⟩ | exact Ow.mul1 ⟨by omega, by omega⟩ | exact Ow.shl0 (by omega) (by omega) (by omega) | exact ⟨by omega, by omega⟩ | exact ⟨by omega, by omega, by omega⟩ | omega | (simp only [List.length_append, List.length_cons, List.length_nil]; omega) | (subst_vars; omega)), (by first | assumption | exact Ow.divw64 (by omega) (by omega) | exact Ow.mul0 ⟨by omega, by omega⟩ | exact Ow.mul1 ⟨by omega, by omega⟩ | exact Ow.shl0 (by omega) (by omega) (by omega) | exact ⟨by omega, by omega⟩ | exact ⟨by omega, by omega, by omega⟩ | omega | (simp only [List.length_append, List.length_cons, List.length_nil]; omega) | (subst_vars; omega)), fun t_4 a2_6 n2_6 h14 h15 => ?_⟩
        refine ⟨rfl, ?_⟩
        refine ⟨_, rfl, ?_⟩
        refine Ow.ifeqi (fun h16 => ?_) (fun h16 => ?_)
        · refine ⟨_, rfl, ?_⟩
          refine ⟨_, _, rfl, rfl, ?_⟩
          refine ⟨_, rfl, fun l_number_here_4 h_l_number_here_4 => ?_⟩
          have z_l_number_here_4 : Ow.Sz 52 l_number_here_4 := by rw [h_l_number_here_4]; exact (Ow.Sz.sub (Ow.Sz.mono (Ow.Sz.lit (n := 1) (i := 0) (by decide)) (by decide : 1 ≤ 51)) z_l_number_here_3)
          refine ⟨_, rfl, ?_⟩
          rw [upd_upd, upd_upd, upd_upd]
          exact kont l_number_here_4 a2_6 n2_6 (Ow.Sz.mono z_l_number_here_4 (by decide : 52 ≤ 2340))
        · refine ⟨_, rfl, ?_⟩
          rw [upd_upd, upd_upd, upd_upd]
          exact kont l_number_here_3 a2_6 n2_6 (Ow.Sz.mono z_l_number_here_3 (by decide : 51 ≤ 2340))
      · refine ⟨_, rfl, ?_⟩
        refine ⟨rfl, ?_⟩
        refine ⟨_, rfl, ?_⟩
        refine Ow.ifeqi (fun h17 => ?_) (fun h17 => ?_)
        · refine ⟨_, rfl, ?_⟩
          refine ⟨_, _, _, _, _, rfl, upd_same, (by first | assumption | exact Ow.divw64 (by omega) (by omega) | exact Ow.mul0 ⟨by omega, by omega⟩ | exact Ow.mul1 ⟨by omega, by omega⟩ | exact Ow.shl0 (by omega) (by omega) (by omega) | exact ⟨by omega, by omega⟩ | exact ⟨by omega, by omega, by omega⟩ | omega | (simp only [List.length_append, List.length_cons, List.length_nil]; omega) | (subst_vars; omega)), (by first | assumption | exact Ow.divw64 (by omega) (by omega) | exact Ow.mul0 ⟨by omega, by omega⟩ | exact Ow.mul1 ⟨by omega, by omega⟩ | exact Ow.shl0 (by omega) (by omega) (by omega) | exact ⟨by omega, by omega⟩ | exact ⟨by omega, by omega, by omega⟩ | omega | (simp only [List.length_append, List.length_cons, List.length_nil]; omega) | (subst_vars; omega)), fun t_5 a2_7 n2_7 h18 h19 => ?_⟩
          refine ⟨_, rfl, ?_⟩
          refine ⟨_, _, _, _, _, rfl, upd_same, (by first | assumption | exact Ow.divw64 (by omega) (by omega) | exact Ow.mul0 ⟨by omega, by omega⟩ | exact Ow.mul1 ⟨by omega, by omega⟩ | exact Ow.shl0 (by omega) (by omega) (by omega) | exact ⟨by omega, by omega⟩ | exact ⟨by omega, by omega, by omega⟩ | omega | (simp only [List.length_append, List.length_cons, List.length_nil]; omega) | (subst_vars; omega)), (by first | assumption | exact Ow.divw64 (by omega) (by omega) | exact Ow.mul0 ⟨by omega, by omega⟩ | exact Ow.mul1 ⟨by omega, by omega⟩ | exact Ow.shl0 (by omega) (by omega) (by omega) | exact ⟨by omega, by omega⟩ | exact ⟨by omega, by omega, by omega⟩ | omega | (simp only [List.length_append, List.length_cons, List.length_nil]; omega) | (subst_vars; omega)), fun t_6 a2_8 n2_8 h20 h21 => ?_⟩
          refine ⟨_, _, rfl, rfl, (.inr (Ow.shlz (n := 2300) (Ow.Sz.rng (n := 20) h18 h19 (by decide)) (by first | assumption | exact Ow.divw64 (by omega) (by omega) | exact Ow.mul0 ⟨by omega, by omega⟩ | exact Ow.mul1 ⟨by omega, by omega⟩ | exact Ow.shl0 (by omega) (by omega) (by omega) | exact ⟨by omega, by omega⟩ | exact ⟨by omega, by omega, by omega⟩ | omega | (simp only [List.length_append, List.length_cons, List.length_nil]; omega) | (subst_vars; omega)) (by first | assumption | exact Ow.divw64 (by omega) (by omega) | exact Ow.mul0 ⟨by omega, by omega⟩ | exact Ow.mul1 ⟨by omega, by omega⟩ | exact Ow.shl0 (by omega) (by omega) (by omega) | exact ⟨by omega, by omega⟩ | exact ⟨by omega, by omega, by omega⟩ | omega | (simp only [List.length_append, List.length_cons, List.length_nil]; omega) | (subst_vars; omega)) (by decide))), fun s h_s => ?_⟩
          have z_s : Ow.Sz 2321 s := by rw [h_s]; exact (Ow.Sz.shl (n := 2300) (Ow.Sz.rng (n := 20) h18 h19 (by decide)) (by first | assumption | exact Ow.divw64 (by omega) (by omega) | exact Ow.mul0 ⟨by omega, by omega⟩ | exact Ow.mul1 ⟨by omega, by omega⟩ | exact Ow.shl0 (by omega) (by omega) (by omega) | exact ⟨by omega, by omega⟩ | exact ⟨by omega, by omega, by omega⟩ | omega | (simp only [List.length_append, List.length_cons, List.length_nil]; omega) | (subst_vars; omega)))
          refine ⟨_, rfl, ?_⟩
          refine ⟨_, _, _, _, _, rfl, upd_same, (by first | assumption | exact Ow.divw64 (by omega) (by omega) | exact Ow.mul0 ⟨by omega, by omega⟩ | exact Ow.mul1 ⟨by omega, by omega⟩ | exact Ow.shl0 (by omega) (by omega) (by omega) | exact ⟨by omega, by omega⟩ | exact ⟨by omega, by omega, by omega⟩ | omega | (simp only [List.length_append, List.length_cons, List.length_nil]; omega) | (subst_vars; omega)), (by first | assumption | exact Ow.divw64 (by omega) (by omega) | exact Ow.mul0 ⟨by omega, by omega⟩ | exact Ow.mul1 ⟨by omega, by omega⟩ | exact Ow.shl0 (by omega) (by omega) (by omega) | exact ⟨by omega, by omega⟩ | exact ⟨by omega, by omega, by omega⟩ | omega | (simp only [List.length_append, List.length_cons, List.length_nil]; omega) | (subst_vars; omega)), fun t_7 a2_9 n2_9 h22 h23 => ?_⟩
          refine ⟨_, _, rfl, rfl, ?_⟩
          refine ⟨_, rfl, fun l_number_here_5 h_l_number_here_5 => ?_⟩
          have z_l_number_here_5 : Ow.Sz 2322 l_number_here_5 := by rw [h_l_number_here_5]; exact (Ow.Sz.add z_s (Ow.Sz.mono (Ow.Sz.rng (n := 20) h22 h23 (by decide)) (by decide : 20 ≤ 2321)))
          refine ⟨_, rfl, ?_⟩
          refine ⟨_, _, _, _, _, rfl, upd_same, (by first | assumption | exact Ow.divw64 (by omega) (by omega) | exact Ow.mul0 ⟨by omega, by omega⟩ | exact Ow.mul1 ⟨by omega, by omega⟩ | exact Ow.shl0 (by omega) (by omega) (by omega) | exact ⟨by omega, by omega⟩ | exact ⟨by omega, by omega, by omega⟩ | omega | (simp only [List.length_append, List.length_cons, List.length_nil]; omega) | (subst_vars; omega)), (by first | assumption | exact Ow.divw64 (by omega) (by omega) | exact Ow.mul0 ⟨by omega, by omega⟩ | exact Ow.mul1 ⟨by omega, by omega⟩ | exact Ow.shl0 (by omega) (by omega) (by omega) | exact ⟨by omega, by omega⟩ | exact ⟨by omega, by omega, by omega⟩ | omega | (simp only [List.length_append, List.length_cons, List.length_nil]; omega) | (subst_vars; omega)), fun t_8 a2_10 n2_10 h24 h25 => ?_⟩
          refine ⟨rfl, ?_⟩
          refine ⟨_, rfl, ?_⟩
          refine Ow.ifeqi (fun h26 => ?_) (fun h26 => ?_)
          · refine ⟨_, rfl, ?_⟩
            refine ⟨_, _, rfl, rfl, ?_⟩
            refine ⟨_, rfl, fun l_number_here_6 h_l_number_here_6 => ?_⟩
            have z_l_number_here_6 : Ow.Sz 2323 l_number_here_6 := by rw [h_l_number_here_6]; exact (Ow.Sz.sub (Ow.Sz.mono (Ow.Sz.lit (n := 1) (i := 0) (by decide)) (by decide : 1 ≤ 2322)) z_l_number_here_5)
            refine ⟨_, rfl, ?_⟩
            rw [upd_upd, upd_upd, upd_upd, upd_upd]
            exact kont l_number_here_6 a2_10 n2_10 (Ow.Sz.mono z_l_number_here_6 (by decide : 2323 ≤ 2340))
          · refine ⟨_, rfl, ?_⟩
            rw [upd_upd, upd_upd, upd_upd, upd_upd]
            exact kont l_number_here_5 a2_10 n2_10 (Ow.Sz.mono z_l_number_here_5 (by decide : 2322 ≤ 2340))
        · refine ⟨_, rfl, ?_⟩
          refine ⟨_, _, _, _, _, rfl, upd_same, (by first | assumption | exact Ow.divw64 (by omega) (by omega) | exact Ow.mul0 ⟨by omega, by omega⟩ | exact Ow.mul1 ⟨by omega, by omega⟩ | exact Ow.shl0 (by omega) (by omega) (by omega) | exact ⟨by omega, by omega⟩ | exact ⟨by omega, by omega, by omega⟩ | omega | (simp only [List.length_append, List.length_cons, List.length_nil]; omega) | (subst_vars; omega)), (by first | assumption | exact Ow.divw64 (by omega) (by omega) | exact Ow.mul0 ⟨by omega, by omega⟩ | exact Ow.mul1 ⟨by omega, by omega⟩ | exact Ow.shl0 (by omega) (by omega) (by omega) | exact ⟨by omega, by omega⟩ | exact ⟨by omega, by omega, by omega⟩ | omega | (simp only [List.length_append, List.length_cons, List.length_nil]; omega) | (subst_vars; omega)), fun l_number_here_7 a2_11 n2_11 h27 h28 => ?_⟩
          refine ⟨_, rfl, ?_⟩
          refine ⟨_, _, _, _, _, rfl, upd_same, (by first | assumption | exact Ow.divw64 (by omega) (by omega) | exact Ow.mul0 ⟨by omega, by omega⟩ | exact Ow.mul1 ⟨by omega, by omega⟩ | exact Ow.shl0 (by omega) (by omega) (by omega) | exact ⟨by omega, by omega⟩ | exact ⟨by omega, by omega, by omega⟩ | omega | (simp only [List.length_append, List.length_cons, List.length_nil]; omega) | (subst_vars; omega)), (by first | assumption | exact Ow.divw64 (by omega) (by omega) | exact Ow.mul0 ⟨by omega, by omega⟩ | exact Ow.mul1 ⟨by omega, by omega⟩ | exact Ow.shl0 (by omega) (by omega) (by omega) | exact ⟨by omega, by omega⟩ | exact ⟨by omega, by omega, by omega⟩ | omega | (simp only [List.length_append, List.length_cons, List.length_nil]; omega) | (subst_vars; omega)), fun t_9 a2_12 n2_12 h29 h30 => ?_⟩
          refine ⟨rfl, ?_⟩
          refine ⟨_, rfl, ?_⟩
          refine Ow.ifeqi (fun h31 => ?_) (fun h31 => ?_)
          · refine ⟨_, rfl, ?_⟩
            refine ⟨_, _, rfl, rfl, ?_⟩
            refine ⟨_, rfl, fun l_number_here_8 h_l_number_here_8 => ?_⟩
            have z_l_number_here_8 : Ow.Sz 7 l_number_here_8 := by rw [h_l_number_here_8]; exact (Ow.Sz.sub (Ow.Sz.mono (Ow.Sz.lit (n := 1) (i := 0) (by decide)) (by decide : 1 ≤ 6)) (Ow.Sz.rng (n := 6) h27 h28 (by decide)))
            refine ⟨_, rfl, ?_⟩
            rw [upd_upd, upd_upd]
            exact kont l_number_here_8 a2_12 n2_12 (Ow.Sz.mono z_l_number_here_8 (by decide : 7 ≤ 2340))
          · refine ⟨_, rfl, ?_⟩
            rw [upd_upd, upd_upd]
            exact kont l_number_here_7 a2_12 n2_12 (Ow.Sz.mono (Ow.Sz.rng (n := 6) h27 h28 (by decide)) (by decide : 6 ≤ 2340))
theorem ok_l_rest (T : Tx K mg) : FnOk P w K mg base CX0 3 T.d_l_rest.f T.d_l_rest.fd ["_law_state", "_law_divisor"] (sp_l_rest T) := by
  refine T.d_l_rest.F.ok sc_l_rest (fun vs H Q E h => ?_) (fun cdv A outer s H vs Q E hr h => ?_)
  · obtain ⟨box, divisor, a, n, c, rfl, _⟩ := h
    rfl
  · obtain ⟨box, divisor, a, n, c, rfl, c0, c1, c2, kont⟩ := h
    refine ⟨_, (pss_cons (ps_set (i := 2) sc_l_rest.nd rfl (Or.inl rfl) (pe_call (Ow.ok_l_draw T) (hr.mono (by decide : 1 ≤ 2)) (by rfl) T.d_l_draw.m T.d_l_draw.F.kp T.d_l_draw.b .nil pass0 (pa_cons (pv 0) (pa_cons pe_int pa_nil))))
        (pss_cons (ps_if (pt_cmpR op_eq (pv 2) pe_int (nomark _)) (pss_one (ps_ret (pe_ix ix_list (pe_lst (pa_cons pe_int (pa_cons (pe_op Ow.op_divN (pv 1) pe_int) (pa_cons (pe_op op_sub (pv 1) pe_int) pa_nil)))) (pe_call (Ow.ok_l_draw T) (hr.mono (by decide : 1 ≤ 2)) (by rfl) T.d_l_draw.m T.d_l_draw.F.kp T.d_l_draw.b .nil pass0 (pa_cons (pv 0) (pa_cons pe_int pa_nil))) (fun _ _ => rfl)))) pss_nil)
        (pss_cons (ps_if (pt_cmpR op_eq (pv 2) pe_int (nomark _)) (pss_one (ps_ret (Ow.pe_nmi (pe_callB (call_max2 rfl) (by rfl) T.z_max (by decide +kernel) (pa_cons pe_int (pa_cons (Ow.pe_nmi (pe_callB (call_min2 rfl) (by rfl) T.z_min (by decide +kernel) (pa_cons (pe_op op_sub (pv 1) pe_int) (pa_cons (pe_op op_sub (pe_op op_add (pe_op Ow.op_divN (pv 1) pe_int) (pe_call (Ow.ok_l_draw T) (hr.mono (by decide : 1 ≤ 2)) (by rfl) T.d_l_draw.m T.d_l_draw.F.kp T.d_l_draw.b .nil pass0 (pa_cons (pv 0) (pa_cons pe_int pa_nil)))) pe_int) pa_nil)))) pa_nil)))))) pss_nil)
        (pss_one (ps_ret (pe_op Ow.op_modN (Ow.pe_nmi (pe_callB call_abs (by rfl) T.z_abs (by decide +kernel) (pa_cons (pe_call (Ow.ok_l_number T) (hr.mono (by decide : 2 ≤ 2)) (by rfl) T.d_l_number.m T.d_l_number.F.kp T.d_l_number.b .nil pass0 (pa_cons (pv 0) pa_nil)) pa_nil))) (pv 1))))))), ?_⟩
    refine ⟨_, rfl, ?_⟩
    refine ⟨_, _, _, _, _, rfl, c0, (by first | assumption | exact Ow.divw64 (by omega) (by omega) | exact Ow.mul0 ⟨by omega, by omega⟩ | exact Ow.mul1 ⟨by omega, by omega⟩ | exact Ow.shl0 (by omega) (by omega) (by omega) | exact ⟨by omega, by omega⟩ | exact ⟨by omega, by omega, by omega⟩ | omega | (simp only [List.length_append, List.length_cons, List.length_nil]; omega) | (subst_vars; omega)), (by first | assumption | exact Ow.divw64 (by omega) (by omega) | exact Ow.mul0 ⟨by omega, by omega⟩ | exact Ow.mul1 ⟨by omega, by omega⟩ | exact Ow.shl0 (by omega) (by omega) (by omega) | exact ⟨by omega, by omega⟩ | exact ⟨by omega, by omega, by omega⟩ | omega | (simp only [List.length_append, List.length_cons, List.length_nil]; omega) | (subst_vars; omega)), fun l_way a2 n2 h1 h2 => ?_⟩
    refine ⟨_, rfl, ?_⟩
    refine ⟨rfl, ?_⟩
    refine ⟨_, rfl, ?_⟩
    refine Ow.ifeqi (fun h3 => ?_) (fun h3 => ?_)
    · refine ⟨_, rfl, ?_⟩
      refine ⟨_, _, rfl, rfl, Ow.divz (by first | assumption | exact Ow.divw64 (by omega) (by omega) | exact Ow.mul0 ⟨by omega, by omega⟩ | exact Ow.mul1 ⟨by omega, by omega⟩ | exact Ow.shl0 (by omega) (by omega) (by omega) | exact ⟨by omega, by omega⟩ | exact ⟨by omega, by omega, by omega⟩ | omega | (simp only [List.length_append, List.length_cons, List.length_nil]; omega) | (subst_vars; omega)) (Ow.Sz.lit (n := 2) (i := 2) (by decide)) (by decide) (by decide), fun q h_q => ?_⟩
      have z_q : Ow.Sz 2340 q := by rw [h_q]; exact (Ow.Sz.div c2 (by first | assumption | exact Ow.divw64 (by omega) (by omega) | exact Ow.mul0 ⟨by omega, by omega⟩ | exact Ow.mul1 ⟨by omega, by omega⟩ | exact Ow.shl0 (by omega) (by omega) (by omega) | exact ⟨by omega, by omega⟩ | exact ⟨by omega, by omega, by omega⟩ | omega | (simp only [List.length_append, List.length_cons, List.length_nil]; omega) | (subst_vars; omega)))
      refine ⟨_, rfl, ?_⟩
      refine ⟨_, _, rfl, rfl, ?_⟩
      refine ⟨by show 3 ≤ sizeLine; decide, fun p h_p => ?_⟩
      refine ⟨_, rfl, ?_⟩
      refine ⟨_, _, _, _, _, rfl, (Ow.at_new h_p upd_same), (by first | assumption | exact Ow.divw64 (by omega) (by omega) | exact Ow.mul0 ⟨by omega, by omega⟩ | exact Ow.mul1 ⟨by omega, by omega⟩ | exact Ow.shl0 (by omega) (by omega) (by omega) | exact ⟨by omega, by omega⟩ | exact ⟨by omega, by omega, by omega⟩ | omega | (simp only [List.length_append, List.length_cons, List.length_nil]; omega) | (subst_vars; omega)), (by first | assumption | exact Ow.divw64 (by omega) (by omega) | exact Ow.mul0 ⟨by omega, by omega⟩ | exact Ow.mul1 ⟨by omega, by omega⟩ | exact Ow.shl0 (by omega) (by omega) (by omega) | exact ⟨by omega, by omega⟩ | exact ⟨by omega, by omega, by omega⟩ | omega | (simp only [List.length_append, List.length_cons, List.length_nil]; omega) | (subst_vars; omega)), fun t a2_2 n2_2 h4 h5 => ?_⟩
      refine Ow.ixi3 (SqL.of (Ow.at_mut (Ow.ne_sym (ne_of_none upd_same h_p)) upd_same)) (by first | assumption | exact Ow.divw64 (by omega) (by omega) | exact Ow.mul0 ⟨by omega, by omega⟩ | exact Ow.mul1 ⟨by omega, by omega⟩ | exact Ow.shl0 (by omega) (by omega) (by omega) | exact ⟨by omega, by omega⟩ | exact ⟨by omega, by omega, by omega⟩ | omega | (simp only [List.length_append, List.length_cons, List.length_nil]; omega) | (subst_vars; omega)) (fun it h_it => ?_)
      have z_it : Ow.Sz 2341 it := by rcases h_it with ⟨_, rfl⟩ | ⟨_, rfl⟩ | ⟨_, rfl⟩ <;> first | exact (Ow.Sz.mono (Ow.Sz.lit (n := 1) (i := 0) (by decide)) (by decide : 1 ≤ 2341)) | exact (Ow.Sz.mono z_q (by decide : 2340 ≤ 2341)) | exact (Ow.Sz.sub c2 (Ow.Sz.mono (Ow.Sz.lit (n := 1) (i := 1) (by decide)) (by decide : 1 ≤ 2340)))
      exact kont it a2_2 n2_2 (by first | assumption | exact Ow.divw64 (by omega) (by omega) | exact Ow.mul0 ⟨by omega, by omega⟩ | exact Ow.mul1 ⟨by omega, by omega⟩ | exact Ow.shl0 (by omega) (by omega) (by omega) | exact ⟨by omega, by omega⟩ | exact ⟨by omega, by omega, by omega⟩ | omega | (simp only [List.length_append, List.length_cons, List.length_nil]; omega) | (subst_vars; omega)) (by first | assumption | exact Ow.divw64 (by omega) (by omega) | exact Ow.mul0 ⟨by omega, by omega⟩ | exact Ow.mul1 ⟨by omega, by omega⟩ | exact Ow.shl0 (by omega) (by omega) (by omega) | exact ⟨by omega, by omega⟩ | exact ⟨by omega, by omega, by omega⟩ | omega | (simp only [List.length_append, List.length_cons, List.length_nil]; omega) | (subst_vars; omega)) (Ow.Sz.mono z_it (by decide : 2341 ≤ 2345)) _ (((Ow.Fm.refl.mut).same (Ow.same_new h_p)).mut) upd_same
    · refine ⟨_, rfl, ?_⟩
      refine ⟨rfl, ?_⟩
      refine ⟨_, rfl, ?_⟩
      refine Ow.ifeqi (fun h6 => ?_) (fun h6 => ?_)
      · refine ⟨_, rfl, ?_⟩
        refine ⟨_, _, rfl, rfl, ?_⟩
        refine ⟨_, rfl, ?_⟩
        refine ⟨_, _, rfl, rfl, Ow.divz (by first | assumption | exact Ow.divw64 (by omega) (by omega) | exact Ow.mul0 ⟨by omega, by omega⟩ | exact Ow.mul1 ⟨by omega, by omega⟩ | exact Ow.shl0 (by omega) (by omega) (by omega) | exact ⟨by omega, by omega⟩ | exact ⟨by omega, by omega, by omega⟩ | omega | (simp only [List.length_append, List.length_cons, List.length_nil]; omega) | (subst_vars; omega)) (Ow.Sz.lit (n := 2) (i := 2) (by decide)) (by decide) (by decide), fun q_2 h_q_2 => ?_⟩
        have z_q_2 : Ow.Sz 2340 q_2 := by rw [h_q_2]; exact (Ow.Sz.div c2 (by first | assumption | exact Ow.divw64 (by omega) (by omega) | exact Ow.mul0 ⟨by omega, by omega⟩ | exact Ow.mul1 ⟨by omega, by omega⟩ | exact Ow.shl0 (by omega) (by omega) (by omega) | exact ⟨by omega, by omega⟩ | exact ⟨by omega, by omega, by omega⟩ | omega | (simp only [List.length_append, List.length_cons, List.length_nil]; omega) | (subst_vars; omega)))
        refine ⟨_, rfl, ?_⟩
        refine ⟨_, _, _, _, _, rfl, upd_same, (by first | assumption | exact Ow.divw64 (by omega) (by omega) | exact Ow.mul0 ⟨by omega, by omega⟩ | exact Ow.mul1 ⟨by omega, by omega⟩ | exact Ow.shl0 (by omega) (by omega) (by omega) | exact ⟨by omega, by omega⟩ | exact ⟨by omega, by omega, by omega⟩ | omega | (simp only [List.length_append, List.length_cons, List.length_nil]; omega) | (subst_vars; omega)), (by first | assumption | exact Ow.divw64 (by omega) (by omega) | exact Ow.mul0 ⟨by omega, by omega⟩ | exact Ow.mul1 ⟨by omega, by omega⟩ | exact Ow.shl0 (by omega) (by omega) (by omega) | exact ⟨by omega, by omega⟩ | exact ⟨by omega, by omega, by omega⟩ | omega | (simp only [List.length_append, List.length_cons, List.length_nil]; omega) | (subst_vars; omega)), fun t_2 a2_3 n2_3 h7 h8 => ?_⟩
        refine ⟨_, _, rfl, rfl, ?_⟩
        refine ⟨_, _, rfl, rfl, ?_⟩
        refine ⟨_, _, rfl, ?_⟩
        refine ⟨_, rfl, fun m h_m => ?_⟩
        have hm_m := Ow.min_ite h_m
        refine ⟨_, _, rfl, ?_⟩
        refine ⟨_, rfl, fun m_2 h_m_2 => ?_⟩
        have hm_m_2 := Ow.max_ite h_m_2
        exact kont m_2 a2_3 n2_3 (by first | assumption | exact Ow.divw64 (by omega) (by omega) | exact Ow.mul0 ⟨by omega, by omega⟩ | exact Ow.mul1 ⟨by omega, by omega⟩ | exact Ow.shl0 (by omega) (by omega) (by omega) | exact ⟨by omega, by omega⟩ | exact ⟨by omega, by omega, by omega⟩ | omega | (simp only [List.length_append, List.length_cons, List.length_nil]; omega) | (subst_vars; omega)) (by first | assumption | exact Ow.divw64 (by omega) (by omega) | exact Ow.mul0 ⟨by omega, by omega⟩ | exact Ow.mul1 ⟨by omega, by omega⟩ | exact Ow.shl0 (by omega) (by omega) (by omega) | exact ⟨by omega, by omega⟩ | exact ⟨by omega, by omega, by omega⟩ | omega | (simp only [List.length_append, List.length_cons, List.length_nil]; omega) | (subst_vars; omega)) (Ow.Sz.mono (Ow.Sz.or hm_m_2.2.2 (Ow.Sz.mono (Ow.Sz.lit (n := 1) (i := 0) (by decide)) (by decide : 1 ≤ 2342)) (Ow.Sz.or hm_m.2.2 (Ow.Sz.mono (Ow.Sz.sub c2 (Ow.Sz.mono (Ow.Sz.lit (n := 1) (i := 1) (by decide)) (by decide : 1 ≤ 2340))) (by decide : 2341 ≤ 2342)) (Ow.Sz.sub (Ow.Sz.add z_q_2 (Ow.Sz.mono (Ow.Sz.rng (n := 2) h7 h8 (by decide)) (by decide : 2 ≤ 2340))) (Ow.Sz.mono (Ow.Sz.lit (n := 1) (i := 1) (by decide)) (by decide : 1 ≤ 2341))))) (by decide : 2342 ≤ 2345)) _ ((Ow.Fm.refl.mut).mut) upd_same
      · refine ⟨_, rfl, ?_⟩
        refine ⟨_, _, _, _, rfl, upd_same, fun t_3 a2_4 n2_4 h9 => ?_⟩
        refine ⟨_, rfl, ?_⟩
        refine ⟨_, rfl, fun ab h_ab => ?_⟩
        have hm_ab := Ow.abs_ite h_ab
        refine ⟨_, rfl, ?_⟩
        refine ⟨_, _, rfl, rfl, (by first | assumption | exact Ow.divw64 (by omega) (by omega) | exact Ow.mul0 ⟨by omega, by omega⟩ | exact Ow.mul1 ⟨by omega, by omega⟩ | exact Ow.shl0 (by omega) (by omega) (by omega) | exact ⟨by omega, by omega⟩ | exact ⟨by omega, by omega, by omega⟩ | omega | (simp only [List.length_append, List.length_cons, List.length_nil]; omega) | (subst_vars; omega)), fun r h_r h0_r h1_r => ?_⟩
        exact kont r a2_4 n2_4 (by first | assumption | exact Ow.divw64 (by omega) (by omega) | exact Ow.mul0 ⟨by omega, by omega⟩ | exact Ow.mul1 ⟨by omega, by omega⟩ | exact Ow.shl0 (by omega) (by omega) (by omega) | exact ⟨by omega, by omega⟩ | exact ⟨by omega, by omega, by omega⟩ | omega | (simp only [List.length_append, List.length_cons, List.length_nil]; omega) | (subst_vars; omega)) (by first | assumption | exact Ow.divw64 (by omega) (by omega) | exact Ow.mul0 ⟨by omega, by omega⟩ | exact Ow.mul1 ⟨by omega, by omega⟩ | exact Ow.shl0 (by omega) (by omega) (by omega) | exact ⟨by omega, by omega⟩ | exact ⟨by omega, by omega, by omega⟩ | omega | (simp only [List.length_append, List.length_cons, List.length_nil]; omega) | (subst_vars; omega)) (Ow.Sz.mono (Ow.Sz.md h0_r h1_r c2) (by decide : 2340 ≤ 2345)) _ ((Ow.Fm.refl.mut).mut) upd_same
theorem ok_l_cell (T : Tx K mg) : FnOk P w K mg base CX0 1 T.d_l_cell.f T.d_l_cell.fd ["_law_script", "_law_k"] (sp_l_cell T) := by
  refine T.d_l_cell.F.ok sc_l_cell (fun vs H Q E h => ?_) (fun cdv A outer s H vs Q E hr h => ?_)
  · obtain ⟨script, k, ns, rfl, _⟩ := h
    rfl
  · obtain ⟨script, k, ns, rfl, c0, c1, c2, kont⟩ := h
    refine ⟨_, (pss_cons (ps_if (pt_cmpR op_lt (pv 1) (Ow.pe_nmi (pe_callB call_len_seq (by rfl) T.z_len (by decide +kernel) (pa_cons (pv 0) pa_nil))) (nomark _)) (pss_one (ps_ret (pe_ix ix_list (pv 0) (pv 1) (fun _ _ => rfl)))) pss_nil)
        (pss_cons (ps_set (i := 2) sc_l_cell.nd rfl (Or.inl rfl) (Ow.pe_nmi (pe_op op_add (pe_op Ow.op_mulN (pv 1) pe_int) pe_int)))
        (pss_cons (ps_if (pt_cmpR op_gt (Ow.pe_nmi (pe_callB call_len_seq (by rfl) T.z_len (by decide +kernel) (pa_cons (pv 0) pa_nil))) pe_int (nomark _)) (pss_one (ps_set (i := 2) sc_l_cell.nd rfl (Or.inl rfl) (pe_op Ow.op_modN (pe_op op_add (pe_op Ow.op_mulN (pe_ix ix_list (pv 0) (pe_op Ow.op_modN (pe_op Ow.op_mulN (pv 1) pe_int) (Ow.pe_nmi (pe_callB call_len_seq (by rfl) T.z_len (by decide +kernel) (pa_cons (pv 0) pa_nil)))) (fun _ _ => rfl)) pe_int) (pe_op Ow.op_mulN (pv 1) pe_int)) pe_int))) pss_nil)
        (pss_one (ps_ret (pe_op Ow.op_modN (pe_op Ow.op_mulN (pv 2) (pv 2)) pe_int)))))), ?_⟩
    refine ⟨_, rfl, ?_⟩
    refine ⟨_, rfl, ?_⟩
    refine ⟨_, _, rfl, .inl c0, ?_⟩
    refine ⟨_, rfl, fun len h_len => ?_⟩
    rw [List.length_map] at h_len
    refine ⟨_, _, rfl, rfl, ?_⟩
    refine ⟨_, rfl, ?_⟩
    refine Ow.ifd (fun h1 => ?_) (fun h1 => ?_)
    · refine ⟨_, rfl, ?_⟩
      refine ⟨_, rfl, ?_⟩
      refine Ow.ixn (xs := ns) (i := k) c0 (by first | assumption | exact Ow.divw64 (by omega) (by omega) | exact Ow.mul0 ⟨by omega, by omega⟩ | exact Ow.mul1 ⟨by omega, by omega⟩ | exact Ow.shl0 (by omega) (by omega) (by omega) | exact ⟨by omega, by omega⟩ | exact ⟨by omega, by omega, by omega⟩ | omega | (simp only [List.length_append, List.length_cons, List.length_nil]; omega) | (subst_vars; omega)) (by first | assumption | exact Ow.divw64 (by omega) (by omega) | exact Ow.mul0 ⟨by omega, by omega⟩ | exact Ow.mul1 ⟨by omega, by omega⟩ | exact Ow.shl0 (by omega) (by omega) (by omega) | exact ⟨by omega, by omega⟩ | exact ⟨by omega, by omega, by omega⟩ | omega | (simp only [List.length_append, List.length_cons, List.length_nil]; omega) | (subst_vars; omega)) (fun it h_it => ?_)
      exact kont it
    · refine ⟨_, rfl, ?_⟩
      refine ⟨_, _, rfl, rfl, (by first | assumption | exact Ow.divw64 (by omega) (by omega) | exact Ow.mul0 ⟨by omega, by omega⟩ | exact Ow.mul1 ⟨by omega, by omega⟩ | exact Ow.shl0 (by omega) (by omega) (by omega) | exact ⟨by omega, by omega⟩ | exact ⟨by omega, by omega, by omega⟩ | omega | (simp only [List.length_append, List.length_cons, List.length_nil]; omega) | (subst_vars; omega)), fun m h_m => ?_⟩
      refine ⟨_, _, rfl, rfl, ?_⟩
      refine ⟨_, rfl, fun l_number_here h_l_number_here => ?_⟩
      refine ⟨_, rfl, ?_⟩
      refine ⟨_, _, rfl, .inl c0, ?_⟩
      refine ⟨_, rfl, fun len_2 h_len_2 => ?_⟩
      rw [List.length_map] at h_len_2
      refine ⟨_, _, rfl, rfl, ?_⟩
      refine ⟨_, rfl, ?_⟩
      refine Ow.ifd (fun h2 => ?_) (fun h2 => ?_)
      · refine ⟨_, rfl, ?_⟩
        refine ⟨_, rfl, ?_⟩
        refine ⟨_, _, rfl, rfl, (by first | assumption | exact Ow.divw64 (by omega) (by omega) | exact Ow.mul0 ⟨by omega, by omega⟩ | exact Ow.mul1 ⟨by omega, by omega⟩ | exact Ow.shl0 (by omega) (by omega) (by omega) | exact ⟨by omega, by omega⟩ | exact ⟨by omega, by omega, by omega⟩ | omega | (simp only [List.length_append, List.length_cons, List.length_nil]; omega) | (subst_vars; omega)), fun m_2 h_m_2 => ?_⟩
        refine ⟨_, rfl, ?_⟩
        refine ⟨_, _, rfl, .inl c0, ?_⟩
        refine ⟨_, rfl, fun len_3 h_len_3 => ?_⟩
        rw [List.length_map] at h_len_3
        refine ⟨_, _, rfl, rfl, (by first | assumption | exact Ow.divw64 (by omega) (by omega) | exact Ow.mul0 ⟨by omega, by omega⟩ | exact Ow.mul1 ⟨by omega, by omega⟩ | exact Ow.shl0 (by omega) (by omega) (by omega) | exact ⟨by omega, by omega⟩ | exact ⟨by omega, by omega, by omega⟩ | omega | (simp only [List.length_append, List.length_cons, List.length_nil]; omega) | (subst_vars; omega)), fun r h_r h0_r h1_r => ?_⟩
        refine Ow.ixn (xs := ns) (i := r) c0 (by first | assumption | exact Ow.divw64 (by omega) (by omega) | exact Ow.mul0 ⟨by omega, by omega⟩ | exact Ow.mul1 ⟨by omega, by omega⟩ | exact Ow.shl0 (by omega) (by omega) (by omega) | exact ⟨by omega, by omega⟩ | exact ⟨by omega, by omega, by omega⟩ | omega | (simp only [List.length_append, List.length_cons, List.length_nil]; omega) | (subst_vars; omega)) (by first | assumption | exact Ow.divw64 (by omega) (by omega) | exact Ow.mul0 ⟨by omega, by omega⟩ | exact Ow.mul1 ⟨by omega, by omega⟩ | exact Ow.shl0 (by omega) (by omega) (by omega) | exact ⟨by omega, by omega⟩ | exact ⟨by omega, by omega, by omega⟩ | omega | (simp only [List.length_append, List.length_cons, List.length_nil]; omega) | (subst_vars; omega)) (fun it_2 h_it_2 => ?_)
        refine ⟨_, _, rfl, rfl, (by first | assumption | exact Ow.divw64 (by omega) (by omega) | exact Ow.mul0 ⟨by omega, by omega⟩ | exact Ow.mul1 ⟨by omega, by omega⟩ | exact Ow.shl0 (by omega) (by omega) (by omega) | exact ⟨by omega, by omega⟩ | exact ⟨by omega, by omega, by omega⟩ | omega | (simp only [List.length_append, List.length_cons, List.length_nil]; omega) | (subst_vars; omega)), fun m_3 h_m_3 => ?_⟩
        refine ⟨_, rfl, ?_⟩
        refine ⟨_, _, rfl, rfl, (by first | assumption | exact Ow.divw64 (by omega) (by omega) | exact Ow.mul0 ⟨by omega, by omega⟩ | exact Ow.mul1 ⟨by omega, by omega⟩ | exact Ow.shl0 (by omega) (by omega) (by omega) | exact ⟨by omega, by omega⟩ | exact ⟨by omega, by omega, by omega⟩ | omega | (simp only [List.length_append, List.length_cons, List.length_nil]; omega) | (subst_vars; omega)), fun m_4 h_m_4 => ?_⟩
        refine ⟨_, _, rfl, rfl, ?_⟩
        refine ⟨_, _, rfl, rfl, (by first | assumption | exact Ow.divw64 (by omega) (by omega) | exact Ow.mul0 ⟨by omega, by omega⟩ | exact Ow.mul1 ⟨by omega, by omega⟩ | exact Ow.shl0 (by omega) (by omega) (by omega) | exact ⟨by omega, by omega⟩ | exact ⟨by omega, by omega, by omega⟩ | omega | (simp only [List.length_append, List.length_cons, List.length_nil]; omega) | (subst_vars; omega)), fun l_number_here_2 h_l_number_here_2 h0_l_number_here_2 h1_l_number_here_2 => ?_⟩
        refine ⟨_, rfl, ?_⟩
        refine ⟨_, rfl, ?_⟩
        refine ⟨_, _, rfl, rfl, (.inr (Ow.mulx (Ow.Sz.md h0_l_number_here_2 h1_l_number_here_2 (Ow.Sz.lit (n := 31) (i := 2147483647) (by decide))) (Ow.Sz.md h0_l_number_here_2 h1_l_number_here_2 (Ow.Sz.lit (n := 31) (i := 2147483647) (by decide))) (by decide))), fun m_5 h_m_5 => ?_⟩
        have z_m_5 : Ow.Sz 62 m_5 := by rw [h_m_5]; exact (Ow.Sz.mul (Ow.Sz.md h0_l_number_here_2 h1_l_number_here_2 (Ow.Sz.lit (n := 31) (i := 2147483647) (by decide))) (Ow.Sz.md h0_l_number_here_2 h1_l_number_here_2 (Ow.Sz.lit (n := 31) (i := 2147483647) (by decide))))
        refine ⟨_, _, rfl, rfl, (by first | assumption | exact Ow.divw64 (by omega) (by omega) | exact Ow.mul0 ⟨by omega, by omega⟩ | exact Ow.mul1 ⟨by omega, by omega⟩ | exact Ow.shl0 (by omega) (by omega) (by omega) | exact ⟨by omega, by omega⟩ | exact ⟨by omega, by omega, by omega⟩ | omega | (simp only [List.length_append, List.length_cons, List.length_nil]; omega) | (subst_vars; omega)), fun r_2 h_r_2 h0_r_2 h1_r_2 => ?_⟩
        exact kont r_2
      · refine ⟨_, rfl, ?_⟩
        refine ⟨_, rfl, ?_⟩
        refine ⟨_, _, rfl, rfl, (by first | assumption | exact Ow.divw64 (by omega) (by omega) | exact Ow.mul0 ⟨by omega, by omega⟩ | exact Ow.mul1 ⟨by omega, by omega⟩ | exact Ow.shl0 (by omega) (by omega) (by omega) | exact ⟨by omega, by omega⟩ | exact ⟨by omega, by omega, by omega⟩ | omega | (simp only [List.length_append, List.length_cons, List.length_nil]; omega) | (subst_vars; omega)), fun m_6 h_m_6 => ?_⟩
        refine ⟨_, _, rfl, rfl, (by first | assumption | exact Ow.divw64 (by omega) (by omega) | exact Ow.mul0 ⟨by omega, by omega⟩ | exact Ow.mul1 ⟨by omega, by omega⟩ | exact Ow.shl0 (by omega) (by omega) (by omega) | exact ⟨by omega, by omega⟩ | exact ⟨by omega, by omega, by omega⟩ | omega | (simp only [List.length_append, List.length_cons, List.length_nil]; omega) | (subst_vars; omega)), fun r_3 h_r_3 h0_r_3 h1_r_3 => ?_⟩
        exact kont r_3
theorem ok_Down_adjust (T : Tx K mg) : FnOk P w K mg base CX0 1 T.d_Down_adjust.f T.d_Down_adjust.fd ["self", "quotient", "rest", "divisor", "negative"] (sp_Down_adjust T) := by
  refine T.d_Down_adjust.F.ok sc_Down_adjust (fun vs H Q E h => ?_) (fun cdv A outer s H vs Q E hr h => ?_)
  · obtain ⟨self, quotient, rest, divisor, negative, dx_self, rfl, _⟩ := h
    rfl
  · obtain ⟨self, quotient, rest, divisor, negative, dx_self, rfl, c0, kont⟩ := h
    refine ⟨_, (pss_one (ps_ret (pe_and (pv 4) (pe_one (pe_cmpR op_gt (pv 2) pe_int (nomark _)))))), ?_⟩
    refine ⟨_, rfl, ?_⟩
    refine ⟨_, rfl, ?_⟩
    refine Ow.ifb (fun h1 => ?_) (fun h1 => ?_)
    · refine ⟨_, rfl, ?_⟩
      refine ⟨_, _, rfl, rfl, ?_⟩
      refine Ow.eqb (b := Ow.adj .Down quotient rest divisor negative) (by first | (unfold Ow.adj; simp only [decide_eq_false (by omega : ¬ 0 < rest), Bool.false_and]) | (unfold Ow.adj; simp only [decide_eq_true (by omega : 0 < rest), Bool.true_and]) | (unfold Ow.adj; rw [if_pos (by omega), h_r]; exact decide_eq_decide.mpr ⟨fun h => V.int.inj h, fun h => by rw [h]⟩) | (unfold Ow.adj; rw [if_neg (by omega)]) | (unfold Ow.adj; simp_all; done)) ?_
      exact kont
    · refine Ow.eqb (b := Ow.adj .Down quotient rest divisor negative) (by first | (unfold Ow.adj; simp only [decide_eq_false (by omega : ¬ 0 < rest), Bool.false_and]) | (unfold Ow.adj; simp only [decide_eq_true (by omega : 0 < rest), Bool.true_and]) | (unfold Ow.adj; rw [if_pos (by omega), h_r]; exact decide_eq_decide.mpr ⟨fun h => V.int.inj h, fun h => by rw [h]⟩) | (unfold Ow.adj; rw [if_neg (by omega)]) | (unfold Ow.adj; simp_all; done)) ?_
      exact kont
theorem ok_Up_adjust (T : Tx K mg) : FnOk P w K mg base CX0 1 T.d_Up_adjust.f T.d_Up_adjust.fd ["self", "quotient", "rest", "divisor", "negative"] (sp_Up_adjust T) := by
  refine T.d_Up_adjust.F.ok sc_Up_adjust (fun vs H Q E h => ?_) (fun cdv A outer s H vs Q E hr h => ?_)
  · obtain ⟨self, quotient, rest, divisor, negative, dx_self, rfl, _⟩ := h
    rfl
  · obtain ⟨self, quotient, rest, divisor, negative, dx_self, rfl, c0, kont⟩ := h
    refine ⟨_, (pss_one (ps_ret (pe_and (pe_cmpR op_gt (pv 2) pe_int (nomark _)) (pe_one (pe_not (pv 4)))))), ?_⟩
    refine ⟨_, rfl, ?_⟩
    refine ⟨_, _, rfl, rfl, ?_⟩
    refine ⟨_, rfl, ?_⟩
    refine Ow.ifd (fun h1 => ?_) (fun h1 => ?_)
    · refine ⟨_, rfl, ?_⟩
      refine ⟨_, rfl, ?_⟩
      refine Ow.eqb (b := Ow.adj .Up quotient rest divisor negative) (by first | (unfold Ow.adj; simp only [decide_eq_false (by omega : ¬ 0 < rest), Bool.false_and]) | (unfold Ow.adj; simp only [decide_eq_true (by omega : 0 < rest), Bool.true_and]) | (unfold Ow.adj; rw [if_pos (by omega), h_r]; exact decide_eq_decide.mpr ⟨fun h => V.int.inj h, fun h => by rw [h]⟩) | (unfold Ow.adj; rw [if_neg (by omega)]) | (unfold Ow.adj; simp_all; done)) ?_
      exact kont
    · refine Ow.eqb (b := Ow.adj .Up quotient rest divisor negative) (by first | (unfold Ow.adj; simp only [decide_eq_false (by omega : ¬ 0 < rest), Bool.false_and]) | (unfold Ow.adj; simp only [decide_eq_true (by omega : 0 < rest), Bool.true_and]) | (unfold Ow.adj; rw [if_pos (by omega), h_r]; exact decide_eq_decide.mpr ⟨fun h => V.int.inj h, fun h => by rw [h]⟩) | (unfold Ow.adj; rw [if_neg (by omega)]) | (unfold Ow.adj; simp_all; done)) ?_
      exact kont
theorem ok_Way_adjust (T : Tx K mg) : FnOk P w K mg base CX0 1 T.d_Way_adjust.f T.d_Way_adjust.fd ["self", "quotient", "rest", "divisor", "negative"] (sp_Way_adjust T) := by
  refine T.d_Way_adjust.F.ok sc_Way_adjust (fun vs H Q E h => ?_) (fun cdv A outer s H vs Q E hr h => ?_)
  · obtain ⟨self, quotient, rest, divisor, negative, dx_self, rfl, _⟩ := h
    rfl
  · obtain ⟨self, quotient, rest, divisor, negative, dx_self, rfl, c0, kont⟩ := h
    refine ⟨_, (pss_one (ps_ret pe_bl)), ?_⟩
    refine Ow.eqb (b := Ow.adj .Cut quotient rest divisor negative) (by first | (unfold Ow.adj; simp only [decide_eq_false (by omega : ¬ 0 < rest), Bool.false_and]) | (unfold Ow.adj; simp only [decide_eq_true (by omega : 0 < rest), Bool.true_and]) | (unfold Ow.adj; rw [if_pos (by omega), h_r]; exact decide_eq_decide.mpr ⟨fun h => V.int.inj h, fun h => by rw [h]⟩) | (unfold Ow.adj; rw [if_neg (by omega)]) | (unfold Ow.adj; simp_all; done)) ?_
    exact kont
theorem ok_Near_adjust (T : Tx K mg) : FnOk P w K mg base CX0 1 T.d_Near_adjust.f T.d_Near_adjust.fd ["self", "quotient", "rest", "divisor", "negative"] (sp_Near_adjust T) := by
  refine T.d_Near_adjust.F.ok sc_Near_adjust (fun vs H Q E h => ?_) (fun cdv A outer s H vs Q E hr h => ?_)
  · obtain ⟨self, quotient, rest, divisor, negative, dx_self, rfl, _⟩ := h
    rfl
  · obtain ⟨self, quotient, rest, divisor, negative, dx_self, rfl, c0, kont⟩ := h
    refine ⟨_, (pss_cons (ps_if (pt_cmpR op_eq (pv 2) (pe_op op_sub (pv 3) (pv 2)) (nomark _)) (pss_one (ps_ret (pe_cmpR op_eq (pe_op Ow.op_modN (pv 1) pe_int) pe_int (nomark _)))) pss_nil)
        (pss_one (ps_ret (pe_cmpR op_gt (pv 2) (pe_op op_sub (pv 3) (pv 2)) (nomark _))))), ?_⟩
    refine ⟨_, rfl, ?_⟩
    refine ⟨_, rfl, ?_⟩
    refine ⟨_, rfl, ?_⟩
    refine ⟨_, _, rfl, rfl, ?_⟩
    refine ⟨rfl, ?_⟩
    refine ⟨_, rfl, ?_⟩
    refine Ow.ifeqi (fun h1 => ?_) (fun h1 => ?_)
    · refine ⟨_, rfl, ?_⟩
      refine ⟨_, _, rfl, rfl, (by first | assumption | exact Ow.divw64 (by omega) (by omega) | exact Ow.mul0 ⟨by omega, by omega⟩ | exact Ow.mul1 ⟨by omega, by omega⟩ | exact Ow.shl0 (by omega) (by omega) (by omega) | exact ⟨by omega, by omega⟩ | exact ⟨by omega, by omega, by omega⟩ | omega | (simp only [List.length_append, List.length_cons, List.length_nil]; omega) | (subst_vars; omega)), fun r h_r h0_r h1_r => ?_⟩
      refine ⟨rfl, ?_⟩
      refine Ow.eqb (b := Ow.adj .Near quotient rest divisor negative) (by first | (unfold Ow.adj; simp only [decide_eq_false (by omega : ¬ 0 < rest), Bool.false_and]) | (unfold Ow.adj; simp only [decide_eq_true (by omega : 0 < rest), Bool.true_and]) | (unfold Ow.adj; rw [if_pos (by omega), h_r]; exact decide_eq_decide.mpr ⟨fun h => V.int.inj h, fun h => by rw [h]⟩) | (unfold Ow.adj; rw [if_neg (by omega)]) | (unfold Ow.adj; simp_all; done)) ?_
      exact kont
    · refine ⟨_, rfl, ?_⟩
      refine ⟨_, rfl, ?_⟩
      refine ⟨_, rfl, ?_⟩
      refine ⟨_, _, rfl, rfl, ?_⟩
      refine ⟨_, _, rfl, rfl, ?_⟩
      refine Ow.eqb (b := Ow.adj .Near quotient rest divisor negative) (by first | (unfold Ow.adj; simp only [decide_eq_false (by omega : ¬ 0 < rest), Bool.false_and]) | (unfold Ow.adj; simp only [decide_eq_true (by omega : 0 < rest), Bool.true_and]) | (unfold Ow.adj; rw [if_pos (by omega), h_r]; exact decide_eq_decide.mpr ⟨fun h => V.int.inj h, fun h => by rw [h]⟩) | (unfold Ow.adj; rw [if_neg (by omega)]) | (unfold Ow.adj; simp_all; done)) ?_
      exact kont
theorem ok_l_right (T : Tx K mg) : FnOk P w K mg base CX0 1 T.d_l_right.f T.d_l_right.fd ["_law_word", "_law_top", "_law_bottom", "_law_found"] (sp_l_right T) := by
  refine T.d_l_right.F.ok sc_l_right (fun vs H Q E h => ?_) (fun cdv A outer s H vs Q E hr h => ?_)
  · obtain ⟨word, top, bottom, found, wy, rfl, _⟩ := h
    rfl
  · obtain ⟨word, top, bottom, found, wy, rfl, c0, c1, c2, c3, c4, c5, kont⟩ := h
    refine ⟨_, (pss_cons (ps_set (i := 4) sc_l_right.nd rfl (Or.inl rfl) (Ow.pe_nmi (pe_op op_sub (pe_op Ow.op_mulN (pv 3) (pv 2)) (pv 1))))
        (pss_cons (ps_if (PW.pt (pw_or (pt_cmpR op_eq (pv 0) pe_str (nomark _)) (pw_or1 (PW.pt (pw_and (pt_cmpR op_eq (pv 0) pe_str (nomark _)) (pw_and1 (pt_cmpR op_ge (pv 1) pe_int (nomark _)))))))) (pss_one (ps_ret (pe_chain op_lt op_le (pe_op op_sub pe_int (pv 2)) (pv 4) pe_int))) pss_nil)
        (pss_cons (ps_if (pt_cmpR op_eq (pv 0) pe_str (nomark _)) (pss_one (ps_ret (pe_or (pe_cmpR op_lt (pe_op Ow.op_mulN pe_int (Ow.pe_nmi (pe_callB call_abs (by rfl) T.z_abs (by decide +kernel) (pa_cons (pv 4) pa_nil)))) (pv 2) (nomark _)) (pe_one (pe_and (pe_cmpR op_eq (pe_op Ow.op_mulN pe_int (Ow.pe_nmi (pe_callB call_abs (by rfl) T.z_abs (by decide +kernel) (pa_cons (pv 4) pa_nil)))) (pv 2) (nomark _)) (pe_one (pe_cmpR op_eq (pe_op Ow.op_modN (pv 3) pe_int) pe_int (nomark _)))))))) pss_nil)
        (pss_one (ps_ret (pe_chain op_le op_lt pe_int (pv 4) (pv 2))))))), ?_⟩
    cases wy
    · obtain rfl : word = "down" := by assumption
      have lz := c2
      unfold Ow.Lies at lz
      dsimp only at lz
      refine ⟨_, rfl, ?_⟩
      refine ⟨_, rfl, ?_⟩
      refine ⟨_, _, rfl, rfl, (.inr (Ow.mulx c5 c4 (by decide))), fun m h_m => ?_⟩
      have z_m : Ow.Sz 12000 m := by rw [h_m]; exact (Ow.Sz.mul c5 c4)
      refine ⟨_, rfl, ?_⟩
      refine ⟨_, _, rfl, rfl, ?_⟩
      refine ⟨_, rfl, fun l_miss h_l_miss => ?_⟩
      have z_l_miss : Ow.Sz 12001 l_miss := by rw [h_l_miss]; exact (Ow.Sz.sub z_m (Ow.Sz.mono c3 (by decide : 6000 ≤ 12000)))
      refine ⟨_, rfl, ?_⟩
      refine ⟨rfl, ?_⟩
      refine ⟨_, rfl, ?_⟩
      refine Ow.ifeqs (fun _ => ?_) (fun h => absurd rfl h)
      refine iteT ?_
      refine ⟨_, rfl, ?_⟩
      refine ⟨_, _, rfl, rfl, ?_⟩
      refine ⟨_, rfl, ?_⟩
      refine ⟨_, _, rfl, rfl, ?_⟩
      refine ⟨_, rfl, ?_⟩
      refine Ow.ifd (fun h1 => ?_) (fun h1 => ?_)
      · refine ⟨_, _, rfl, rfl, ?_⟩
        refine Ow.eqd (by first | assumption | exact Ow.divw64 (by omega) (by omega) | exact Ow.mul0 ⟨by omega, by omega⟩ | exact Ow.mul1 ⟨by omega, by omega⟩ | exact Ow.shl0 (by omega) (by omega) (by omega) | exact ⟨by omega, by omega⟩ | exact ⟨by omega, by omega, by omega⟩ | omega | (simp only [List.length_append, List.length_cons, List.length_nil]; omega) | (subst_vars; omega)) ?_
        exact kont
      · exact ((by first | assumption | exact Ow.divw64 (by omega) (by omega) | exact Ow.mul0 ⟨by omega, by omega⟩ | exact Ow.mul1 ⟨by omega, by omega⟩ | exact Ow.shl0 (by omega) (by omega) (by omega) | exact ⟨by omega, by omega⟩ | exact ⟨by omega, by omega, by omega⟩ | omega | (simp only [List.length_append, List.length_cons, List.length_nil]; omega) | (subst_vars; omega)) : False).elim
    · obtain rfl : word = "up" := by assumption
      have lz := c2
      unfold Ow.Lies at lz
      dsimp only at lz
      refine ⟨_, rfl, ?_⟩
      refine ⟨_, rfl, ?_⟩
      refine ⟨_, _, rfl, rfl, (.inr (Ow.mulx c5 c4 (by decide))), fun m_2 h_m_2 => ?_⟩
      have z_m_2 : Ow.Sz 12000 m_2 := by rw [h_m_2]; exact (Ow.Sz.mul c5 c4)
      refine ⟨_, rfl, ?_⟩
      refine ⟨_, _, rfl, rfl, ?_⟩
      refine ⟨_, rfl, fun l_miss_2 h_l_miss_2 => ?_⟩
      have z_l_miss_2 : Ow.Sz 12001 l_miss_2 := by rw [h_l_miss_2]; exact (Ow.Sz.sub z_m_2 (Ow.Sz.mono c3 (by decide : 6000 ≤ 12000)))
      refine ⟨_, rfl, ?_⟩
      refine ⟨rfl, ?_⟩
      refine ⟨_, rfl, ?_⟩
      refine Ow.ifeqs (fun h => absurd h (by decide +kernel)) (fun _ => ?_)
      refine ⟨_, rfl, ?_⟩
      refine ⟨rfl, ?_⟩
      refine ⟨_, rfl, ?_⟩
      refine Ow.ifeqs (fun h => absurd h (by decide +kernel)) (fun _ => ?_)
      refine iteF ?_
      refine ⟨_, rfl, ?_⟩
      refine ⟨rfl, ?_⟩
      refine ⟨_, rfl, ?_⟩
      refine Ow.ifeqs (fun h => absurd h (by decide +kernel)) (fun _ => ?_)
      refine ⟨_, rfl, ?_⟩
      refine ⟨_, _, rfl, rfl, ?_⟩
      refine ⟨_, rfl, ?_⟩
      refine Ow.ifd (fun h2 => ?_) (fun h2 => ?_)
      · refine ⟨_, rfl, ?_⟩
        refine ⟨_, _, rfl, rfl, ?_⟩
        refine Ow.eqd (by first | assumption | exact Ow.divw64 (by omega) (by omega) | exact Ow.mul0 ⟨by omega, by omega⟩ | exact Ow.mul1 ⟨by omega, by omega⟩ | exact Ow.shl0 (by omega) (by omega) (by omega) | exact ⟨by omega, by omega⟩ | exact ⟨by omega, by omega, by omega⟩ | omega | (simp only [List.length_append, List.length_cons, List.length_nil]; omega) | (subst_vars; omega)) ?_
        exact kont
      · exact ((by first | assumption | exact Ow.divw64 (by omega) (by omega) | exact Ow.mul0 ⟨by omega, by omega⟩ | exact Ow.mul1 ⟨by omega, by omega⟩ | exact Ow.shl0 (by omega) (by omega) (by omega) | exact ⟨by omega, by omega⟩ | exact ⟨by omega, by omega, by omega⟩ | omega | (simp only [List.length_append, List.length_cons, List.length_nil]; omega) | (subst_vars; omega)) : False).elim
    · obtain rfl : word = "cut" := by assumption
      have lz := c2
      unfold Ow.Lies at lz
      dsimp only at lz
      refine ⟨_, rfl, ?_⟩
      refine ⟨_, rfl, ?_⟩
      refine ⟨_, _, rfl, rfl, (.inr (Ow.mulx c5 c4 (by decide))), fun m_3 h_m_3 => ?_⟩
      have z_m_3 : Ow.Sz 12000 m_3 := by rw [h_m_3]; exact (Ow.Sz.mul c5 c4)
      refine ⟨_, rfl, ?_⟩
      refine ⟨_, _, rfl, rfl, ?_⟩
      refine ⟨_, rfl, fun l_miss_3 h_l_miss_3 => ?_⟩
      have z_l_miss_3 : Ow.Sz 12001 l_miss_3 := by rw [h_l_miss_3]; exact (Ow.Sz.sub z_m_3 (Ow.Sz.mono c3 (by decide : 6000 ≤ 12000)))
      refine ⟨_, rfl, ?_⟩
      refine ⟨rfl, ?_⟩
      refine ⟨_, rfl, ?_⟩
      refine Ow.ifeqs (fun h => absurd h (by decide +kernel)) (fun _ => ?_)
      refine ⟨_, rfl, ?_⟩
      refine ⟨rfl, ?_⟩
      refine ⟨_, rfl, ?_⟩
      refine Ow.ifeqs (fun _ => ?_) (fun h => absurd rfl h)
      refine ⟨_, rfl, ?_⟩
      refine ⟨_, _, rfl, rfl, ?_⟩
      refine ⟨_, rfl, ?_⟩
      refine Ow.ifd (fun h3 => ?_) (fun h3 => ?_)
      · refine ⟨_, rfl, ?_⟩
        refine ⟨_, _, rfl, rfl, ?_⟩
        refine ⟨_, rfl, ?_⟩
        refine ⟨_, _, rfl, rfl, ?_⟩
        refine ⟨_, rfl, ?_⟩
        refine Ow.ifd (fun h4 => ?_) (fun h4 => ?_)
        · refine ⟨_, _, rfl, rfl, ?_⟩
          refine Ow.eqd (by first | assumption | exact Ow.divw64 (by omega) (by omega) | exact Ow.mul0 ⟨by omega, by omega⟩ | exact Ow.mul1 ⟨by omega, by omega⟩ | exact Ow.shl0 (by omega) (by omega) (by omega) | exact ⟨by omega, by omega⟩ | exact ⟨by omega, by omega, by omega⟩ | omega | (simp only [List.length_append, List.length_cons, List.length_nil]; omega) | (subst_vars; omega)) ?_
          exact kont
        · exact ((by first | assumption | exact Ow.divw64 (by omega) (by omega) | exact Ow.mul0 ⟨by omega, by omega⟩ | exact Ow.mul1 ⟨by omega, by omega⟩ | exact Ow.shl0 (by omega) (by omega) (by omega) | exact ⟨by omega, by omega⟩ | exact ⟨by omega, by omega, by omega⟩ | omega | (simp only [List.length_append, List.length_cons, List.length_nil]; omega) | (subst_vars; omega)) : False).elim
      · refine ⟨_, rfl, ?_⟩
        refine ⟨rfl, ?_⟩
        refine ⟨_, rfl, ?_⟩
        refine Ow.ifeqs (fun h => absurd h (by decide +kernel)) (fun _ => ?_)
        refine ⟨_, rfl, ?_⟩
        refine ⟨_, _, rfl, rfl, ?_⟩
        refine ⟨_, rfl, ?_⟩
        refine Ow.ifd (fun h5 => ?_) (fun h5 => ?_)
        · refine ⟨_, rfl, ?_⟩
          refine ⟨_, _, rfl, rfl, ?_⟩
          refine Ow.eqd (by first | assumption | exact Ow.divw64 (by omega) (by omega) | exact Ow.mul0 ⟨by omega, by omega⟩ | exact Ow.mul1 ⟨by omega, by omega⟩ | exact Ow.shl0 (by omega) (by omega) (by omega) | exact ⟨by omega, by omega⟩ | exact ⟨by omega, by omega, by omega⟩ | omega | (simp only [List.length_append, List.length_cons, List.length_nil]; omega) | (subst_vars; omega)) ?_
          exact kont
        · exact ((by first | assumption | exact Ow.divw64 (by omega) (by omega) | exact Ow.mul0 ⟨by omega, by omega⟩ | exact Ow.mul1 ⟨by omega, by omega⟩ | exact Ow.shl0 (by omega) (by omega) (by omega) | exact ⟨by omega, by omega⟩ | exact ⟨by omega, by omega, by omega⟩ | omega | (simp only [List.length_append, List.length_cons, List.length_nil]; omega) | (subst_vars; omega)) : False).elim
    · obtain rfl : word = "near" := by assumption
      have lz := c2
      unfold Ow.Lies at lz
      dsimp only at lz
      refine ⟨_, rfl, ?_⟩
      refine ⟨_, rfl, ?_⟩
      refine ⟨_, _, rfl, rfl, (.inr (Ow.mulx c5 c4 (by decide))), fun m_4 h_m_4 => ?_⟩
      have z_m_4 : Ow.Sz 12000 m_4 := by rw [h_m_4]; exact (Ow.Sz.mul c5 c4)
      refine ⟨_, rfl, ?_⟩
      refine ⟨_, _, rfl, rfl, ?_⟩
      refine ⟨_, rfl, fun l_miss_4 h_l_miss_4 => ?_⟩
      have z_l_miss_4 : Ow.Sz 12001 l_miss_4 := by rw [h_l_miss_4]; exact (Ow.Sz.sub z_m_4 (Ow.Sz.mono c3 (by decide : 6000 ≤ 12000)))
      refine ⟨_, rfl, ?_⟩
      refine ⟨rfl, ?_⟩
      refine ⟨_, rfl, ?_⟩
      refine Ow.ifeqs (fun h => absurd h (by decide +kernel)) (fun _ => ?_)
      refine ⟨_, rfl, ?_⟩
      refine ⟨rfl, ?_⟩
      refine ⟨_, rfl, ?_⟩
      refine Ow.ifeqs (fun h => absurd h (by decide +kernel)) (fun _ => ?_)
      refine iteF ?_
      refine ⟨_, rfl, ?_⟩
      refine ⟨rfl, ?_⟩
      refine ⟨_, rfl, ?_⟩
      refine Ow.ifeqs (fun _ => ?_) (fun h => absurd rfl h)
      refine ⟨_, rfl, ?_⟩
      refine ⟨_, rfl, ?_⟩
      refine ⟨_, rfl, fun ab h_ab => ?_⟩
      have hm_ab := Ow.abs_ite h_ab
      refine ⟨_, _, rfl, rfl, (.inr (Ow.mulx (Ow.Sz.lit (n := 2) (i := 2) (by decide)) (Ow.Sz.abs z_l_miss_4 h_ab) (by decide))), fun m_5 h_m_5 => ?_⟩
      have z_m_5 : Ow.Sz 12003 m_5 := by rw [h_m_5]; exact (Ow.Sz.mul (Ow.Sz.lit (n := 2) (i := 2) (by decide)) (Ow.Sz.abs z_l_miss_4 h_ab))
      refine ⟨_, rfl, ?_⟩
      refine ⟨_, _, rfl, rfl, ?_⟩
      refine ⟨_, rfl, ?_⟩
      refine Ow.ifd (fun h6 => ?_) (fun h6 => ?_)
      · exact kont
      · refine ⟨_, rfl, ?_⟩
        refine ⟨_, rfl, ?_⟩
        refine ⟨_, rfl, fun ab_2 h_ab_2 => ?_⟩
        have hm_ab_2 := Ow.abs_ite h_ab_2
        refine ⟨_, _, rfl, rfl, (.inr (Ow.mulx (Ow.Sz.lit (n := 2) (i := 2) (by decide)) (Ow.Sz.abs z_l_miss_4 h_ab_2) (by decide))), fun m_6 h_m_6 => ?_⟩
        have z_m_6 : Ow.Sz 12003 m_6 := by rw [h_m_6]; exact (Ow.Sz.mul (Ow.Sz.lit (n := 2) (i := 2) (by decide)) (Ow.Sz.abs z_l_miss_4 h_ab_2))
        refine ⟨_, rfl, ?_⟩
        refine ⟨rfl, ?_⟩
        refine ⟨_, rfl, ?_⟩
        refine Ow.ifeqi (fun h7 => ?_) (fun h7 => ?_)
        · refine ⟨_, rfl, ?_⟩
          refine ⟨_, _, rfl, rfl, (by first | assumption | exact Ow.divw64 (by omega) (by omega) | exact Ow.mul0 ⟨by omega, by omega⟩ | exact Ow.mul1 ⟨by omega, by omega⟩ | exact Ow.shl0 (by omega) (by omega) (by omega) | exact ⟨by omega, by omega⟩ | exact ⟨by omega, by omega, by omega⟩ | omega | (simp only [List.length_append, List.length_cons, List.length_nil]; omega) | (subst_vars; omega)), fun r h_r h0_r h1_r => ?_⟩
          refine ⟨rfl, ?_⟩
          refine Ow.eqeqi (by first | assumption | exact Ow.divw64 (by omega) (by omega) | exact Ow.mul0 ⟨by omega, by omega⟩ | exact Ow.mul1 ⟨by omega, by omega⟩ | exact Ow.shl0 (by omega) (by omega) (by omega) | exact ⟨by omega, by omega⟩ | exact ⟨by omega, by omega, by omega⟩ | omega | (simp only [List.length_append, List.length_cons, List.length_nil]; omega) | (subst_vars; omega)) ?_
          exact kont
        · exact ((by first | assumption | exact Ow.divw64 (by omega) (by omega) | exact Ow.mul0 ⟨by omega, by omega⟩ | exact Ow.mul1 ⟨by omega, by omega⟩ | exact Ow.shl0 (by omega) (by omega) (by omega) | exact ⟨by omega, by omega⟩ | exact ⟨by omega, by omega, by omega⟩ | omega | (simp only [List.length_append, List.length_cons, List.length_nil]; omega) | (subst_vars; omega)) : False).elim
theorem ok_l_asked (T : Tx K mg) : FnOk P w K mg base CX0 2 T.d_l_asked.f T.d_l_asked.fd ["_law_word", "_law_way", "_law_quotient", "_law_rest_here", "_law_divisor", "_law_negative"] (sp_l_asked T) := by
  refine T.d_l_asked.F.ok sc_l_asked (fun vs H Q E h => ?_) (fun cdv A outer s H vs Q E hr h => ?_)
  · obtain ⟨word, way, quotient, rest, divisor, negative, wy, dx_way, rfl, _⟩ := h
    rfl
  · obtain ⟨word, way, quotient, rest, divisor, negative, wy, dx_way, rfl, c0, c1, c2, c3, c4, c5, c6, c7, kont⟩ := h
    refine ⟨_, (pss_cons (ps_set (i := 6) sc_l_asked.nd rfl (Or.inl rfl) (Ow.pe_methA (R := fun C sp => (C = T.k_Down.C ∧ sp = sp_Down_adjust T) ∨ (C = T.k_Up.C ∧ sp = sp_Up_adjust T) ∨ (C = T.k_Cut.C ∧ sp = sp_Way_adjust T) ∨ (C = T.k_Near.C ∧ sp = sp_Near_adjust T)) (pv 1) (Ow.mal_or (Ow.mal_one ⟨_, _, _, _, T.k_Down.cl, T.mt_Down_adjust, Ow.ok_Down_adjust T, hr.mono (by decide : 1 ≤ 1), T.d_Down_adjust.b⟩) (Ow.mal_or (Ow.mal_one ⟨_, _, _, _, T.k_Up.cl, T.mt_Up_adjust, Ow.ok_Up_adjust T, hr.mono (by decide : 1 ≤ 1), T.d_Up_adjust.b⟩) (Ow.mal_or (Ow.mal_one ⟨_, _, _, _, T.k_Cut.cl, T.mt_Cut_adjust, Ow.ok_Way_adjust T, hr.mono (by decide : 1 ≤ 1), T.d_Way_adjust.b⟩) (Ow.mal_one ⟨_, _, _, _, T.k_Near.cl, T.mt_Near_adjust, Ow.ok_Near_adjust T, hr.mono (by decide : 1 ≤ 1), T.d_Near_adjust.b⟩)))) pass0 (pa_cons (pv 2) (pa_cons (pv 3) (pa_cons (pv 4) (pa_cons (pv 5) pa_nil))))))
        (pss_cons (ps_if (pt_not (pt_val (pe_callB call_isi (by rfl) T.z_isinstance (by decide +kernel) (pa_cons (pv 6) (pa_cons (pe_bltn (v := .ty "bool") (by rfl) T.z_bool (by decide +kernel) rfl) pa_nil))))) (pss_one (ps_ret pe_bl)) pss_nil)
        (pss_cons (ps_set (i := 7) sc_l_asked.nd rfl (Or.inl rfl) (Ow.pe_nmi (pe_op op_add (pe_op Ow.op_mulN (pv 2) (pv 4)) (pv 3))))
        (pss_cons (ps_set (i := 8) sc_l_asked.nd rfl (Or.inl rfl) (Ow.pe_nmi (pe_op op_add (pv 2) (pe_callTy Ow.call_intb (by rfl) T.z_int (by decide +kernel) (pa_cons (pv 6) pa_nil)))))
        (pss_cons (ps_if (pt_val (pv 5)) (pss_one (ps_ret (pe_call (Ow.ok_l_right T) (hr.mono (by decide : 1 ≤ 1)) (by rfl) T.d_l_right.m T.d_l_right.F.kp T.d_l_right.b .nil pass0 (pa_cons (pv 0) (pa_cons (pe_op op_sub pe_int (pv 7)) (pa_cons (pv 4) (pa_cons (pe_op op_sub pe_int (pv 8)) pa_nil))))))) pss_nil)
        (pss_one (ps_ret (pe_call (Ow.ok_l_right T) (hr.mono (by decide : 1 ≤ 1)) (by rfl) T.d_l_right.m T.d_l_right.F.kp T.d_l_right.b .nil pass0 (pa_cons (pv 0) (pa_cons (pv 7) (pa_cons (pv 4) (pa_cons (pv 8) pa_nil)))))))))))), ?_⟩
    cases wy
    · obtain rfl : word = "down" := by assumption
      refine ⟨_, rfl, ?_⟩
      refine ⟨_, _, _, _, _, rfl, .inl ⟨rfl, rfl⟩, c1, rfl, ?_⟩
      refine ⟨_, rfl, ?_⟩
      refine ⟨_, rfl, ?_⟩
      refine ⟨_, rfl, ?_⟩
      refine ⟨_, rfl, ?_⟩
      refine ⟨_, _, _, _, _, _, rfl, c1, ?_⟩
      refine ⟨_, rfl, ?_⟩
      refine ⟨_, _, _, _, true, rfl, .ty _, .base (.bl _), kit_ty (by decide +kernel), ?_⟩
      refine ⟨_, rfl, ?_⟩
      refine iteF ?_
      refine ⟨_, rfl, ?_⟩
      refine ⟨_, rfl, ?_⟩
      refine ⟨_, _, rfl, rfl, (.inr (Ow.mulx c5 c7 (by decide))), fun m h_m => ?_⟩
      have z_m : Ow.Sz 4690 m := by rw [h_m]; exact (Ow.Sz.mul c5 c7)
      refine ⟨_, rfl, ?_⟩
      refine ⟨_, _, rfl, rfl, ?_⟩
      refine ⟨_, rfl, fun l_top h_l_top => ?_⟩
      have z_l_top : Ow.Sz 4691 l_top := by rw [h_l_top]; exact (Ow.Sz.add z_m (Ow.Sz.mono c6 (by decide : 2345 ≤ 4690)))
      refine ⟨_, rfl, ?_⟩
      refine ⟨_, rfl, ?_⟩
      refine ⟨_, rfl, fun n h_n => ?_⟩
      refine ⟨_, _, rfl, rfl, ?_⟩
      refine ⟨_, rfl, fun l_told h_l_told => ?_⟩
      have z_l_told : Ow.Sz 2351 l_told := by rw [h_l_told]; exact (Ow.Sz.add c5 (Ow.Sz.mono (by rcases h_n with ⟨h, _⟩ | ⟨h, _⟩ <;> rw [h] <;> exact Ow.Sz.lit (by decide)) (by decide : 1 ≤ 2350)))
      refine ⟨_, rfl, ?_⟩
      refine ⟨_, rfl, ?_⟩
      refine Ow.ifb (fun h1 => ?_) (fun h1 => ?_)
      · refine ⟨_, rfl, ?_⟩
        refine ⟨_, rfl, ?_⟩
        refine ⟨_, _, rfl, rfl, ?_⟩
        refine ⟨_, rfl, ?_⟩
        refine ⟨_, rfl, ?_⟩
        refine ⟨_, _, rfl, rfl, ?_⟩
        refine ⟨_, _, _, _, Ow.F_Way.Down, rfl, rfl, (by first | assumption | exact Ow.divw64 (by omega) (by omega) | exact Ow.mul0 ⟨by omega, by omega⟩ | exact Ow.mul1 ⟨by omega, by omega⟩ | exact Ow.shl0 (by omega) (by omega) (by omega) | exact ⟨by omega, by omega⟩ | exact ⟨by omega, by omega, by omega⟩ | omega | (simp only [List.length_append, List.length_cons, List.length_nil]; omega) | (subst_vars; omega) | (subst_vars; first | exact Ow.lies_qn (by omega) (by omega) (by omega) (by omega) (by assumption) | exact Ow.lies_q (by omega) (by omega) (by omega) (by omega) (by assumption))), (by first | assumption | exact Ow.divw64 (by omega) (by omega) | exact Ow.mul0 ⟨by omega, by omega⟩ | exact Ow.mul1 ⟨by omega, by omega⟩ | exact Ow.shl0 (by omega) (by omega) (by omega) | exact ⟨by omega, by omega⟩ | exact ⟨by omega, by omega, by omega⟩ | omega | (simp only [List.length_append, List.length_cons, List.length_nil]; omega) | (subst_vars; omega) | (subst_vars; first | exact Ow.lies_qn (by omega) (by omega) (by omega) (by omega) (by assumption) | exact Ow.lies_q (by omega) (by omega) (by omega) (by omega) (by assumption))), (Ow.Sz.mono (Ow.Sz.sub (Ow.Sz.mono (Ow.Sz.lit (n := 1) (i := 0) (by decide)) (by decide : 1 ≤ 4691)) z_l_top) (by decide : 4692 ≤ 6000)), (Ow.Sz.mono c7 (by decide : 2340 ≤ 6000)), (Ow.Sz.mono (Ow.Sz.sub (Ow.Sz.mono (Ow.Sz.lit (n := 1) (i := 0) (by decide)) (by decide : 1 ≤ 2351)) z_l_told) (by decide : 2352 ≤ 6000)), ?_⟩
        exact kont _ (Same.refl _)
      · refine ⟨_, rfl, ?_⟩
        refine ⟨_, rfl, ?_⟩
        refine ⟨_, rfl, ?_⟩
        refine ⟨_, rfl, ?_⟩
        refine ⟨_, _, _, _, Ow.F_Way.Down, rfl, rfl, (by first | assumption | exact Ow.divw64 (by omega) (by omega) | exact Ow.mul0 ⟨by omega, by omega⟩ | exact Ow.mul1 ⟨by omega, by omega⟩ | exact Ow.shl0 (by omega) (by omega) (by omega) | exact ⟨by omega, by omega⟩ | exact ⟨by omega, by omega, by omega⟩ | omega | (simp only [List.length_append, List.length_cons, List.length_nil]; omega) | (subst_vars; omega) | (subst_vars; first | exact Ow.lies_qn (by omega) (by omega) (by omega) (by omega) (by assumption) | exact Ow.lies_q (by omega) (by omega) (by omega) (by omega) (by assumption))), (by first | assumption | exact Ow.divw64 (by omega) (by omega) | exact Ow.mul0 ⟨by omega, by omega⟩ | exact Ow.mul1 ⟨by omega, by omega⟩ | exact Ow.shl0 (by omega) (by omega) (by omega) | exact ⟨by omega, by omega⟩ | exact ⟨by omega, by omega, by omega⟩ | omega | (simp only [List.length_append, List.length_cons, List.length_nil]; omega) | (subst_vars; omega) | (subst_vars; first | exact Ow.lies_qn (by omega) (by omega) (by omega) (by omega) (by assumption) | exact Ow.lies_q (by omega) (by omega) (by omega) (by omega) (by assumption))), (Ow.Sz.mono z_l_top (by decide : 4691 ≤ 6000)), (Ow.Sz.mono c7 (by decide : 2340 ≤ 6000)), (Ow.Sz.mono z_l_told (by decide : 2351 ≤ 6000)), ?_⟩
        exact kont _ (Same.refl _)
    · obtain rfl : word = "up" := by assumption
      refine ⟨_, rfl, ?_⟩
      refine ⟨_, _, _, _, _, rfl, .inr (.inl ⟨rfl, rfl⟩), c1, rfl, ?_⟩
      refine ⟨_, rfl, ?_⟩
      refine ⟨_, rfl, ?_⟩
      refine ⟨_, rfl, ?_⟩
      refine ⟨_, rfl, ?_⟩
      refine ⟨_, _, _, _, _, _, rfl, c1, ?_⟩
      refine ⟨_, rfl, ?_⟩
      refine ⟨_, _, _, _, true, rfl, .ty _, .base (.bl _), kit_ty (by decide +kernel), ?_⟩
      refine ⟨_, rfl, ?_⟩
      refine iteF ?_
      refine ⟨_, rfl, ?_⟩
      refine ⟨_, rfl, ?_⟩
      refine ⟨_, _, rfl, rfl, (.inr (Ow.mulx c5 c7 (by decide))), fun m_2 h_m_2 => ?_⟩
      have z_m_2 : Ow.Sz 4690 m_2 := by rw [h_m_2]; exact (Ow.Sz.mul c5 c7)
      refine ⟨_, rfl, ?_⟩
      refine ⟨_, _, rfl, rfl, ?_⟩
      refine ⟨_, rfl, fun l_top_2 h_l_top_2 => ?_⟩
      have z_l_top_2 : Ow.Sz 4691 l_top_2 := by rw [h_l_top_2]; exact (Ow.Sz.add z_m_2 (Ow.Sz.mono c6 (by decide : 2345 ≤ 4690)))
      refine ⟨_, rfl, ?_⟩
      refine ⟨_, rfl, ?_⟩
      refine ⟨_, rfl, fun n_2 h_n_2 => ?_⟩
      refine ⟨_, _, rfl, rfl, ?_⟩
      refine ⟨_, rfl, fun l_told_2 h_l_told_2 => ?_⟩
      have z_l_told_2 : Ow.Sz 2351 l_told_2 := by rw [h_l_told_2]; exact (Ow.Sz.add c5 (Ow.Sz.mono (by rcases h_n_2 with ⟨h, _⟩ | ⟨h, _⟩ <;> rw [h] <;> exact Ow.Sz.lit (by decide)) (by decide : 1 ≤ 2350)))
      refine ⟨_, rfl, ?_⟩
      refine ⟨_, rfl, ?_⟩
      refine Ow.ifb (fun h2 => ?_) (fun h2 => ?_)
      · refine ⟨_, rfl, ?_⟩
        refine ⟨_, rfl, ?_⟩
        refine ⟨_, _, rfl, rfl, ?_⟩
        refine ⟨_, rfl, ?_⟩
        refine ⟨_, rfl, ?_⟩
        refine ⟨_, _, rfl, rfl, ?_⟩
        refine ⟨_, _, _, _, Ow.F_Way.Up, rfl, rfl, (by first | assumption | exact Ow.divw64 (by omega) (by omega) | exact Ow.mul0 ⟨by omega, by omega⟩ | exact Ow.mul1 ⟨by omega, by omega⟩ | exact Ow.shl0 (by omega) (by omega) (by omega) | exact ⟨by omega, by omega⟩ | exact ⟨by omega, by omega, by omega⟩ | omega | (simp only [List.length_append, List.length_cons, List.length_nil]; omega) | (subst_vars; omega) | (subst_vars; first | exact Ow.lies_qn (by omega) (by omega) (by omega) (by omega) (by assumption) | exact Ow.lies_q (by omega) (by omega) (by omega) (by omega) (by assumption))), (by first | assumption | exact Ow.divw64 (by omega) (by omega) | exact Ow.mul0 ⟨by omega, by omega⟩ | exact Ow.mul1 ⟨by omega, by omega⟩ | exact Ow.shl0 (by omega) (by omega) (by omega) | exact ⟨by omega, by omega⟩ | exact ⟨by omega, by omega, by omega⟩ | omega | (simp only [List.length_append, List.length_cons, List.length_nil]; omega) | (subst_vars; omega) | (subst_vars; first | exact Ow.lies_qn (by omega) (by omega) (by omega) (by omega) (by assumption) | exact Ow.lies_q (by omega) (by omega) (by omega) (by omega) (by assumption))), (Ow.Sz.mono (Ow.Sz.sub (Ow.Sz.mono (Ow.Sz.lit (n := 1) (i := 0) (by decide)) (by decide : 1 ≤ 4691)) z_l_top_2) (by decide : 4692 ≤ 6000)), (Ow.Sz.mono c7 (by decide : 2340 ≤ 6000)), (Ow.Sz.mono (Ow.Sz.sub (Ow.Sz.mono (Ow.Sz.lit (n := 1) (i := 0) (by decide)) (by decide : 1 ≤ 2351)) z_l_told_2) (by decide : 2352 ≤ 6000)), ?_⟩
        exact kont _ (Same.refl _)
      · refine ⟨_, rfl, ?_⟩
        refine ⟨_, rfl, ?_⟩
        refine ⟨_, rfl, ?_⟩
        refine ⟨_, rfl, ?_⟩
        refine ⟨_, _, _, _, Ow.F_Way.Up, rfl, rfl, (by first | assumption | exact Ow.divw64 (by omega) (by omega) | exact Ow.mul0 ⟨by omega, by omega⟩ | exact Ow.mul1 ⟨by omega, by omega⟩ | exact Ow.shl0 (by omega) (by omega) (by omega) | exact ⟨by omega, by omega⟩ | exact ⟨by omega, by omega, by omega⟩ | omega | (simp only [List.length_append, List.length_cons, List.length_nil]; omega) | (subst_vars; omega) | (subst_vars; first | exact Ow.lies_qn (by omega) (by omega) (by omega) (by omega) (by assumption) | exact Ow.lies_q (by omega) (by omega) (by omega) (by omega) (by assumption))), (by first | assumption | exact Ow.divw64 (by omega) (by omega) | exact Ow.mul0 ⟨by omega, by omega⟩ | exact Ow.mul1 ⟨by omega, by omega⟩ | exact Ow.shl0 (by omega) (by omega) (by omega) | exact ⟨by omega, by omega⟩ | exact ⟨by omega, by omega, by omega⟩ | omega | (simp only [List.length_append, List.length_cons, List.length_nil]; omega) | (subst_vars; omega) | (subst_vars; first | exact Ow.lies_qn (by omega) (by omega) (by omega) (by omega) (by assumption) | exact Ow.lies_q (by omega) (by omega) (by omega) (by omega) (by assumption))), (Ow.Sz.mono z_l_top_2 (by decide : 4691 ≤ 6000)), (Ow.Sz.mono c7 (by decide : 2340 ≤ 6000)), (Ow.Sz.mono z_l_told_2 (by decide : 2351 ≤ 6000)), ?_⟩
        exact kont _ (Same.refl _)
    · obtain rfl : word = "cut" := by assumption
      refine ⟨_, rfl, ?_⟩
      refine ⟨_, _, _, _, _, rfl, .inr (.inr (.inl ⟨rfl, rfl⟩)), c1, rfl, ?_⟩
      refine ⟨_, rfl, ?_⟩
      refine ⟨_, rfl, ?_⟩
      refine ⟨_, rfl, ?_⟩
      refine ⟨_, rfl, ?_⟩
      refine ⟨_, _, _, _, _, _, rfl, c1, ?_⟩
      refine ⟨_, rfl, ?_⟩
      refine ⟨_, _, _, _, true, rfl, .ty _, .base (.bl _), kit_ty (by decide +kernel), ?_⟩
      refine ⟨_, rfl, ?_⟩
      refine iteF ?_
      refine ⟨_, rfl, ?_⟩
      refine ⟨_, rfl, ?_⟩
      refine ⟨_, _, rfl, rfl, (.inr (Ow.mulx c5 c7 (by decide))), fun m_3 h_m_3 => ?_⟩
      have z_m_3 : Ow.Sz 4690 m_3 := by rw [h_m_3]; exact (Ow.Sz.mul c5 c7)
      refine ⟨_, rfl, ?_⟩
      refine ⟨_, _, rfl, rfl, ?_⟩
      refine ⟨_, rfl, fun l_top_3 h_l_top_3 => ?_⟩
      have z_l_top_3 : Ow.Sz 4691 l_top_3 := by rw [h_l_top_3]; exact (Ow.Sz.add z_m_3 (Ow.Sz.mono c6 (by decide : 2345 ≤ 4690)))
      refine ⟨_, rfl, ?_⟩
      refine ⟨_, rfl, ?_⟩
      refine ⟨_, rfl, fun n_3 h_n_3 => ?_⟩
      refine ⟨_, _, rfl, rfl, ?_⟩
      refine ⟨_, rfl, fun l_told_3 h_l_told_3 => ?_⟩
      have z_l_told_3 : Ow.Sz 2351 l_told_3 := by rw [h_l_told_3]; exact (Ow.Sz.add c5 (Ow.Sz.mono (by rcases h_n_3 with ⟨h, _⟩ | ⟨h, _⟩ <;> rw [h] <;> exact Ow.Sz.lit (by decide)) (by decide : 1 ≤ 2350)))
      refine ⟨_, rfl, ?_⟩
      refine ⟨_, rfl, ?_⟩
      refine Ow.ifb (fun h3 => ?_) (fun h3 => ?_)
      · refine ⟨_, rfl, ?_⟩
        refine ⟨_, rfl, ?_⟩
        refine ⟨_, _, rfl, rfl, ?_⟩
        refine ⟨_, rfl, ?_⟩
        refine ⟨_, rfl, ?_⟩
        refine ⟨_, _, rfl, rfl, ?_⟩
        refine ⟨_, _, _, _, Ow.F_Way.Cut, rfl, rfl, (by first | assumption | exact Ow.divw64 (by omega) (by omega) | exact Ow.mul0 ⟨by omega, by omega⟩ | exact Ow.mul1 ⟨by omega, by omega⟩ | exact Ow.shl0 (by omega) (by omega) (by omega) | exact ⟨by omega, by omega⟩ | exact ⟨by omega, by omega, by omega⟩ | omega | (simp only [List.length_append, List.length_cons, List.length_nil]; omega) | (subst_vars; omega) | (subst_vars; first | exact Ow.lies_qn (by omega) (by omega) (by omega) (by omega) (by assumption) | exact Ow.lies_q (by omega) (by omega) (by omega) (by omega) (by assumption))), (by first | assumption | exact Ow.divw64 (by omega) (by omega) | exact Ow.mul0 ⟨by omega, by omega⟩ | exact Ow.mul1 ⟨by omega, by omega⟩ | exact Ow.shl0 (by omega) (by omega) (by omega) | exact ⟨by omega, by omega⟩ | exact ⟨by omega, by omega, by omega⟩ | omega | (simp only [List.length_append, List.length_cons, List.length_nil]; omega) | (subst_vars; omega) | (subst_vars; first | exact Ow.lies_qn (by omega) (by omega) (by omega) (by omega) (by assumption) | exact Ow.lies_q (by omega) (by omega) (by omega) (by omega) (by assumption))), (Ow.Sz.mono (Ow.Sz.sub (Ow.Sz.mono (Ow.Sz.lit (n := 1) (i := 0) (by decide)) (by decide : 1 ≤ 4691)) z_l_top_3) (by decide : 4692 ≤ 6000)), (Ow.Sz.mono c7 (by decide : 2340 ≤ 6000)), (Ow.Sz.mono (Ow.Sz.sub (Ow.Sz.mono (Ow.Sz.lit (n := 1) (i := 0) (by decide)) (by decide : 1 ≤ 2351)) z_l_told_3) (by decide : 2352 ≤ 6000)), ?_⟩
        exact kont _ (Same.refl _)
      · refine ⟨_, rfl, ?_⟩
        refine ⟨_, rfl, ?_⟩
        refine ⟨_, rfl, ?_⟩
        refine ⟨_, rfl, ?_⟩
        refine ⟨_, _, _, _, Ow.F_Way.Cut, rfl, rfl, (by first | assumption | exact Ow.divw64 (by omega) (by omega) | exact Ow.mul0 ⟨by omega, by omega⟩ | exact Ow.mul1 ⟨by omega, by omega⟩ | exact Ow.shl0 (by omega) (by omega) (by omega) | exact ⟨by omega, by omega⟩ | exact ⟨by omega, by omega, by omega⟩ | omega | (simp only [List.length_append, List.length_cons, List.length_nil]; omega) | (subst_vars; omega) | (subst_vars; first | exact Ow.lies_qn (by omega) (by omega) (by omega) (by omega) (by assumption) | exact Ow.lies_q (by omega) (by omega) (by omega) (by omega) (by assumption))), (by first | assumption | exact Ow.divw64 (by omega) (by omega) | exact Ow.mul0 ⟨by omega, by omega⟩ | exact Ow.mul1 ⟨by omega, by omega⟩ | exact Ow.shl0 (by omega) (by omega) (by omega) | exact ⟨by omega, by omega⟩ | exact ⟨by omega, by omega, by omega⟩ | omega | (simp only [List.length_append, List.length_cons, List.length_nil]; omega) | (subst_vars; omega) | (subst_vars; first | exact Ow.lies_qn (by omega) (by omega) (by omega) (by omega) (by assumption) | exact Ow.lies_q (by omega) (by omega) (by omega) (by omega) (by assumption))), (Ow.Sz.mono z_l_top_3 (by decide : 4691 ≤ 6000)), (Ow.Sz.mono c7 (by decide : 2340 ≤ 6000)), (Ow.Sz.mono z_l_told_3 (by decide : 2351 ≤ 6000)), ?_⟩
        exact kont _ (Same.refl _)
    · obtain rfl : word = "near" := by assumption
      refine ⟨_, rfl, ?_⟩
      refine ⟨_, _, _, _, _, rfl, .inr (.inr (.inr (⟨rfl, rfl⟩))), c1, rfl, ?_⟩
      refine ⟨_, rfl, ?_⟩
      refine ⟨_, rfl, ?_⟩
      refine ⟨_, rfl, ?_⟩
      refine ⟨_, rfl, ?_⟩
      refine ⟨_, _, _, _, _, _, rfl, c1, ?_⟩
      refine ⟨_, rfl, ?_⟩
      refine ⟨_, _, _, _, true, rfl, .ty _, .base (.bl _), kit_ty (by decide +kernel), ?_⟩
      refine ⟨_, rfl, ?_⟩
      refine iteF ?_
      refine ⟨_, rfl, ?_⟩
      refine ⟨_, rfl, ?_⟩
      refine ⟨_, _, rfl, rfl, (.inr (Ow.mulx c5 c7 (by decide))), fun m_4 h_m_4 => ?_⟩
      have z_m_4 : Ow.Sz 4690 m_4 := by rw [h_m_4]; exact (Ow.Sz.mul c5 c7)
      refine ⟨_, rfl, ?_⟩
      refine ⟨_, _, rfl, rfl, ?_⟩
      refine ⟨_, rfl, fun l_top_4 h_l_top_4 => ?_⟩
      have z_l_top_4 : Ow.Sz 4691 l_top_4 := by rw [h_l_top_4]; exact (Ow.Sz.add z_m_4 (Ow.Sz.mono c6 (by decide : 2345 ≤ 4690)))
      refine ⟨_, rfl, ?_⟩
      refine ⟨_, rfl, ?_⟩
      refine ⟨_, rfl, fun n_4 h_n_4 => ?_⟩
      refine ⟨_, _, rfl, rfl, ?_⟩
      refine ⟨_, rfl, fun l_told_4 h_l_told_4 => ?_⟩
      have z_l_told_4 : Ow.Sz 2351 l_told_4 := by rw [h_l_told_4]; exact (Ow.Sz.add c5 (Ow.Sz.mono (by rcases h_n_4 with ⟨h, _⟩ | ⟨h, _⟩ <;> rw [h] <;> exact Ow.Sz.lit (by decide)) (by decide : 1 ≤ 2350)))
      refine ⟨_, rfl, ?_⟩
      refine ⟨_, rfl, ?_⟩
      refine Ow.ifb (fun h4 => ?_) (fun h4 => ?_)
      · refine ⟨_, rfl, ?_⟩
        refine ⟨_, rfl, ?_⟩
        refine ⟨_, _, rfl, rfl, ?_⟩
        refine ⟨_, rfl, ?_⟩
        refine ⟨_, rfl, ?_⟩
        refine ⟨_, _, rfl, rfl, ?_⟩
        refine ⟨_, _, _, _, Ow.F_Way.Near, rfl, rfl, (by first | assumption | exact Ow.divw64 (by omega) (by omega) | exact Ow.mul0 ⟨by omega, by omega⟩ | exact Ow.mul1 ⟨by omega, by omega⟩ | exact Ow.shl0 (by omega) (by omega) (by omega) | exact ⟨by omega, by omega⟩ | exact ⟨by omega, by omega, by omega⟩ | omega | (simp only [List.length_append, List.length_cons, List.length_nil]; omega) | (subst_vars; omega) | (subst_vars; first | exact Ow.lies_qn (by omega) (by omega) (by omega) (by omega) (by assumption) | exact Ow.lies_q (by omega) (by omega) (by omega) (by omega) (by assumption))), (by first | assumption | exact Ow.divw64 (by omega) (by omega) | exact Ow.mul0 ⟨by omega, by omega⟩ | exact Ow.mul1 ⟨by omega, by omega⟩ | exact Ow.shl0 (by omega) (by omega) (by omega) | exact ⟨by omega, by omega⟩ | exact ⟨by omega, by omega, by omega⟩ | omega | (simp only [List.length_append, List.length_cons, List.length_nil]; omega) | (subst_vars; omega) | (subst_vars; first | exact Ow.lies_qn (by omega) (by omega) (by omega) (by omega) (by assumption) | exact Ow.lies_q (by omega) (by omega) (by omega) (by omega) (by assumption))), (Ow.Sz.mono (Ow.Sz.sub (Ow.Sz.mono (Ow.Sz.lit (n := 1) (i := 0) (by decide)) (by decide : 1 ≤ 4691)) z_l_top_4) (by decide : 4692 ≤ 6000)), (Ow.Sz.mono c7 (by decide : 2340 ≤ 6000)), (Ow.Sz.mono (Ow.Sz.sub (Ow.Sz.mono (Ow.Sz.lit (n := 1) (i := 0) (by decide)) (by decide : 1 ≤ 2351)) z_l_told_4) (by decide : 2352 ≤ 6000)), ?_⟩
        exact kont _ (Same.refl _)
      · refine ⟨_, rfl, ?_⟩
        refine ⟨_, rfl, ?_⟩
        refine ⟨_, rfl, ?_⟩
        refine ⟨_, rfl, ?_⟩
        refine ⟨_, _, _, _, Ow.F_Way.Near, rfl, rfl, (by first | assumption | exact Ow.divw64 (by omega) (by omega) | exact Ow.mul0 ⟨by omega, by omega⟩ | exact Ow.mul1 ⟨by omega, by omega⟩ | exact Ow.shl0 (by omega) (by omega) (by omega) | exact ⟨by omega, by omega⟩ | exact ⟨by omega, by omega, by omega⟩ | omega | (simp only [List.length_append, List.length_cons, List.length_nil]; omega) | (subst_vars; omega) | (subst_vars; first | exact Ow.lies_qn (by omega) (by omega) (by omega) (by omega) (by assumption) | exact Ow.lies_q (by omega) (by omega) (by omega) (by omega) (by assumption))), (by first | assumption | exact Ow.divw64 (by omega) (by omega) | exact Ow.mul0 ⟨by omega, by omega⟩ | exact Ow.mul1 ⟨by omega, by omega⟩ | exact Ow.shl0 (by omega) (by omega) (by omega) | exact ⟨by omega, by omega⟩ | exact ⟨by omega, by omega, by omega⟩ | omega | (simp only [List.length_append, List.length_cons, List.length_nil]; omega) | (subst_vars; omega) | (subst_vars; first | exact Ow.lies_qn (by omega) (by omega) (by omega) (by omega) (by assumption) | exact Ow.lies_q (by omega) (by omega) (by omega) (by omega) (by assumption))), (Ow.Sz.mono z_l_top_4 (by decide : 4691 ≤ 6000)), (Ow.Sz.mono c7 (by decide : 2340 ≤ 6000)), (Ow.Sz.mono z_l_told_4 (by decide : 2351 ≤ 6000)), ?_⟩
        exact kont _ (Same.refl _)
theorem ok_Way_rounded (T : Tx K mg) : FnOk P w K mg base CX0 2 T.d_Way_rounded.f T.d_Way_rounded.fd ["self", "top", "bottom"] (sp_Way_rounded T) := by
  refine T.d_Way_rounded.F.ok sc_Way_rounded (fun vs H Q E h => ?_) (fun cdv A outer s H vs Q E hr h => ?_)
  · obtain ⟨self, top, bottom, wy, dx_self, rfl, _⟩ := h
    rfl
  · obtain ⟨self, top, bottom, wy, dx_self, rfl, c0, c1, c2, c3, kont⟩ := h
    refine ⟨_, (pss_cons (ps_asg (pe_callB Ow.call_dm (by rfl) T.z_divmod (by decide +kernel) (pa_cons (Ow.pe_nmi (pe_callB call_abs (by rfl) T.z_abs (by decide +kernel) (pa_cons (pv 1) pa_nil))) (pa_cons (pv 2) pa_nil))) (pg_tup rfl (pgs_cons (pg_name (i := 3) sc_Way_rounded.nd rfl (Or.inl rfl)) (pgs_cons (pg_name (i := 4) sc_Way_rounded.nd rfl (Or.inl rfl)) pgs_nil))))
        (pss_cons (ps_if (pt_val (Ow.pe_methA (R := fun C sp => (C = T.k_Down.C ∧ sp = sp_Down_adjust T) ∨ (C = T.k_Up.C ∧ sp = sp_Up_adjust T) ∨ (C = T.k_Cut.C ∧ sp = sp_Way_adjust T) ∨ (C = T.k_Near.C ∧ sp = sp_Near_adjust T)) (pv 0) (Ow.mal_or (Ow.mal_one ⟨_, _, _, _, T.k_Down.cl, T.mt_Down_adjust, Ow.ok_Down_adjust T, hr.mono (by decide : 1 ≤ 1), T.d_Down_adjust.b⟩) (Ow.mal_or (Ow.mal_one ⟨_, _, _, _, T.k_Up.cl, T.mt_Up_adjust, Ow.ok_Up_adjust T, hr.mono (by decide : 1 ≤ 1), T.d_Up_adjust.b⟩) (Ow.mal_or (Ow.mal_one ⟨_, _, _, _, T.k_Cut.cl, T.mt_Cut_adjust, Ow.ok_Way_adjust T, hr.mono (by decide : 1 ≤ 1), T.d_Way_adjust.b⟩) (Ow.mal_one ⟨_, _, _, _, T.k_Near.cl, T.mt_Near_adjust, Ow.ok_Near_adjust T, hr.mono (by decide : 1 ≤ 1), T.d_Near_adjust.b⟩)))) pass0 (pa_cons (pv 3) (pa_cons (pv 4) (pa_cons (pv 2) (pa_cons (pe_cmpR op_lt (pv 1) pe_int (nomark _)) pa_nil)))))) (pss_one (ps_set (i := 3) sc_Way_rounded.nd rfl (Or.inl rfl) (Ow.pe_nmi (pe_op op_add (pv 3) pe_int)))) pss_nil)
        (pss_cons (ps_if (pt_cmpR op_lt (pv 1) pe_int (nomark _)) (pss_one (ps_ret (pe_op op_sub pe_int (pv 3)))) pss_nil)
        (pss_one (ps_ret (pv 3)))))), ?_⟩
    cases wy
    · refine ⟨_, rfl, ?_⟩
      refine ⟨_, rfl, ?_⟩
      refine ⟨_, rfl, fun ab h_ab => ?_⟩
      have hm_ab := Ow.abs_ite h_ab
      refine ⟨_, rfl, ?_⟩
      refine ⟨_, _, rfl, (Ow.dmz (by first | assumption | exact Ow.divw64 (by omega) (by omega) | exact Ow.mul0 ⟨by omega, by omega⟩ | exact Ow.mul1 ⟨by omega, by omega⟩ | exact Ow.shl0 (by omega) (by omega) (by omega) | exact ⟨by omega, by omega⟩ | exact ⟨by omega, by omega, by omega⟩ | omega | (simp only [List.length_append, List.length_cons, List.length_nil]; omega) | (subst_vars; omega)) (Ow.Sz.abs c1 h_ab) (by decide)), fun q r p h_q h_r h0_r h1_r h_p => ?_⟩
      have z_q : Ow.Sz 4000 q := by rw [h_q]; exact Ow.Sz.div (Ow.Sz.abs c1 h_ab) (by first | assumption | exact Ow.divw64 (by omega) (by omega) | exact Ow.mul0 ⟨by omega, by omega⟩ | exact Ow.mul1 ⟨by omega, by omega⟩ | exact Ow.shl0 (by omega) (by omega) (by omega) | exact ⟨by omega, by omega⟩ | exact ⟨by omega, by omega, by omega⟩ | omega | (simp only [List.length_append, List.length_cons, List.length_nil]; omega) | (subst_vars; omega))
      refine ⟨_, _, rfl, (SqT.of upd_same), rfl, ?_⟩
      refine ⟨_, _, rfl, ?_⟩
      refine ⟨_, _, rfl, ?_⟩
      refine ⟨rfl, ?_⟩
      refine ⟨_, rfl, ?_⟩
      refine ⟨_, _, _, _, _, rfl, .inl ⟨rfl, rfl⟩, (Ow.at_new h_p c0), rfl, ?_⟩
      refine ⟨_, rfl, ?_⟩
      refine ⟨_, rfl, ?_⟩
      refine ⟨_, rfl, ?_⟩
      refine ⟨_, rfl, ?_⟩
      refine ⟨_, _, rfl, rfl, ?_⟩
      refine ⟨_, _, _, _, _, _, rfl, (Ow.at_new h_p c0), ?_⟩
      refine ⟨_, rfl, ?_⟩
      refine Ow.ifb (fun h1 => ?_) (fun h1 => ?_)
      · refine ⟨_, rfl, ?_⟩
        refine ⟨_, _, rfl, rfl, ?_⟩
        refine ⟨_, rfl, fun quotient h_quotient => ?_⟩
        have z_quotient : Ow.Sz 4001 quotient := by rw [h_quotient]; exact (Ow.Sz.add z_q (Ow.Sz.mono (Ow.Sz.lit (n := 1) (i := 1) (by decide)) (by decide : 1 ≤ 4000)))
        refine ⟨_, rfl, ?_⟩
        refine ⟨_, _, rfl, rfl, ?_⟩
        refine ⟨_, rfl, ?_⟩
        refine Ow.ifd (fun h2 => ?_) (fun h2 => ?_)
        · refine ⟨_, rfl, ?_⟩
          refine ⟨_, _, rfl, rfl, ?_⟩
          first | have e := Ow.rnd_neg (t := top) (b := bottom) (by assumption) (by assumption) (by assumption) (by assumption) (by assumption) | have e := Ow.rnd_pos (t := top) (b := bottom) (by assumption) (by assumption) (by assumption) (by assumption) (by assumption)
          exact kont (0 - quotient) (by first | (rw [e]; simp only [if_true, Bool.false_eq_true, if_false]; done) | (rw [e]; simp only [if_true, Bool.false_eq_true, if_false]; omega)) (Ow.Sz.sub (Ow.Sz.mono (Ow.Sz.lit (n := 1) (i := 0) (by decide)) (by decide : 1 ≤ 4001)) z_quotient) _ (Ow.same_new h_p)
        · refine ⟨_, rfl, ?_⟩
          first | have e := Ow.rnd_neg (t := top) (b := bottom) (by assumption) (by assumption) (by assumption) (by assumption) (by assumption) | have e := Ow.rnd_pos (t := top) (b := bottom) (by assumption) (by assumption) (by assumption) (by assumption) (by assumption)
          exact kont quotient (by first | (rw [e]; simp only [if_true, Bool.false_eq_true, if_false]; done) | (rw [e]; simp only [if_true, Bool.false_eq_true, if_false]; omega)) (Ow.Sz.mono z_quotient (by decide : 4001 ≤ 4002)) _ (Ow.same_new h_p)
      · refine ⟨_, rfl, ?_⟩
        refine ⟨_, _, rfl, rfl, ?_⟩
        refine ⟨_, rfl, ?_⟩
        refine Ow.ifd (fun h3 => ?_) (fun h3 => ?_)
        · refine ⟨_, rfl, ?_⟩
          refine ⟨_, _, rfl, rfl, ?_⟩
          first | have e := Ow.rnd_neg (t := top) (b := bottom) (by assumption) (by assumption) (by assumption) (by assumption) (by assumption) | have e := Ow.rnd_pos (t := top) (b := bottom) (by assumption) (by assumption) (by assumption) (by assumption) (by assumption)
          exact kont (0 - q) (by first | (rw [e]; simp only [if_true, Bool.false_eq_true, if_false]; done) | (rw [e]; simp only [if_true, Bool.false_eq_true, if_false]; omega)) (Ow.Sz.mono (Ow.Sz.sub (Ow.Sz.mono (Ow.Sz.lit (n := 1) (i := 0) (by decide)) (by decide : 1 ≤ 4000)) z_q) (by decide : 4001 ≤ 4002)) _ (Ow.same_new h_p)
        · refine ⟨_, rfl, ?_⟩
          first | have e := Ow.rnd_neg (t := top) (b := bottom) (by assumption) (by assumption) (by assumption) (by assumption) (by assumption) | have e := Ow.rnd_pos (t := top) (b := bottom) (by assumption) (by assumption) (by assumption) (by assumption) (by assumption)
          exact kont q (by first | (rw [e]; simp only [if_true, Bool.false_eq_true, if_false]; done) | (rw [e]; simp only [if_true, Bool.false_eq_true, if_false]; omega)) (Ow.Sz.mono z_q (by decide : 4000 ≤ 4002)) _ (Ow.same_new h_p)
    · refine ⟨_, rfl, ?_⟩
      refine ⟨_, rfl, ?_⟩
      refine ⟨_, rfl, fun ab_2 h_ab_2 => ?_⟩
      have hm_ab_2 := Ow.abs_ite h_ab_2
      refine ⟨_, rfl, ?_⟩
      refine ⟨_, _, rfl, (Ow.dmz (by first | assumption | exact Ow.divw64 (by omega) (by omega) | exact Ow.mul0 ⟨by omega, by omega⟩ | exact Ow.mul1 ⟨by omega, by omega⟩ | exact Ow.shl0 (by omega) (by omega) (by omega) | exact ⟨by omega, by omega⟩ | exact ⟨by omega, by omega, by omega⟩ | omega | (simp only [List.length_append, List.length_cons, List.length_nil]; omega) | (subst_vars; omega)) (Ow.Sz.abs c1 h_ab_2) (by decide)), fun q_2 r_2 p_2 h_q_2 h_r_2 h0_r_2 h1_r_2 h_p_2 => ?_⟩
      have z_q_2 : Ow.Sz 4000 q_2 := by rw [h_q_2]; exact Ow.Sz.div (Ow.Sz.abs c1 h_ab_2) (by first | assumption | exact Ow.divw64 (by omega) (by omega) | exact Ow.mul0 ⟨by omega, by omega⟩ | exact Ow.mul1 ⟨by omega, by omega⟩ | exact Ow.shl0 (by omega) (by omega) (by omega) | exact ⟨by omega, by omega⟩ | exact ⟨by omega, by omega, by omega⟩ | omega | (simp only [List.length_append, List.length_cons, List.length_nil]; omega) | (subst_vars; omega))
      refine ⟨_, _, rfl, (SqT.of upd_same), rfl, ?_⟩
      refine ⟨_, _, rfl, ?_⟩
      refine ⟨_, _, rfl, ?_⟩
      refine ⟨rfl, ?_⟩
      refine ⟨_, rfl, ?_⟩
      refine ⟨_, _, _, _, _, rfl, .inr (.inl ⟨rfl, rfl⟩), (Ow.at_new h_p_2 c0), rfl, ?_⟩
      refine ⟨_, rfl, ?_⟩
      refine ⟨_, rfl, ?_⟩
      refine ⟨_, rfl, ?_⟩
      refine ⟨_, rfl, ?_⟩
      refine ⟨_, _, rfl, rfl, ?_⟩
      refine ⟨_, _, _, _, _, _, rfl, (Ow.at_new h_p_2 c0), ?_⟩
      refine ⟨_, rfl, ?_⟩
      refine Ow.ifb (fun h4 => ?_) (fun h4 => ?_)
      · refine ⟨_, rfl, ?_⟩
        refine ⟨_, _, rfl, rfl, ?_⟩
        refine ⟨_, rfl, fun quotient_2 h_quotient_2 => ?_⟩
        have z_quotient_2 : Ow.Sz 4001 quotient_2 := by rw [h_quotient_2]; exact (Ow.Sz.add z_q_2 (Ow.Sz.mono (Ow.Sz.lit (n := 1) (i := 1) (by decide)) (by decide : 1 ≤ 4000)))
        refine ⟨_, rfl, ?_⟩
        refine ⟨_, _, rfl, rfl, ?_⟩
        refine ⟨_, rfl, ?_⟩
        refine Ow.ifd (fun h5 => ?_) (fun h5 => ?_)
        · refine ⟨_, rfl, ?_⟩
          refine ⟨_, _, rfl, rfl, ?_⟩
          first | have e := Ow.rnd_neg (t := top) (b := bottom) (by assumption) (by assumption) (by assumption) (by assumption) (by assumption) | have e := Ow.rnd_pos (t := top) (b := bottom) (by assumption) (by assumption) (by assumption) (by assumption) (by assumption)
          exact kont (0 - quotient_2) (by first | (rw [e]; simp only [if_true, Bool.false_eq_true, if_false]; done) | (rw [e]; simp only [if_true, Bool.false_eq_true, if_false]; omega)) (Ow.Sz.sub (Ow.Sz.mono (Ow.Sz.lit (n := 1) (i := 0) (by decide)) (by decide : 1 ≤ 4001)) z_quotient_2) _ (Ow.same_new h_p_2)
        · refine ⟨_, rfl, ?_⟩
          first | have e := Ow.rnd_neg (t := top) (b := bottom) (by assumption) (by assumption) (by assumption) (by assumption) (by assumption) | have e := Ow.rnd_pos (t := top) (b := bottom) (by assumption) (by assumption) (by assumption) (by assumption) (by assumption)
          exact kont quotient_2 (by first | (rw [e]; simp only [if_true, Bool.false_eq_true, if_false]; done) | (rw [e]; simp only [if_true, Bool.false_eq_true, if_false]; omega)) (Ow.Sz.mono z_quotient_2 (by decide : 4001 ≤ 4002)) _ (Ow.same_new h_p_2)
      · refine ⟨_, rfl, ?_⟩
        refine ⟨_, _, rfl, rfl, ?_⟩
        refine ⟨_, rfl, ?_⟩
        refine Ow.ifd (fun h6 => ?_) (fun h6 => ?_)
        · refine ⟨_, rfl, ?_⟩
          refine ⟨_, _, rfl, rfl, ?_⟩
          first | have e := Ow.rnd_neg (t := top) (b := bottom) (by assumption) (by assumption) (by assumption) (by assumption) (by assumption) | have e := Ow.rnd_pos (t := top) (b := bottom) (by assumption) (by assumption) (by assumption) (by assumption) (by assumption)
          exact kont (0 - q_2) (by first | (rw [e]; simp only [if_true, Bool.false_eq_true, if_false]; done) | (rw [e]; simp only [if_true, Bool.false_eq_true, if_false]; omega)) (Ow.Sz.mono (Ow.Sz.sub (Ow.Sz.mono (Ow.Sz.lit (n := 1) (i := 0) (by decide)) (by decide : 1 ≤ 4000)) z_q_2) (by decide : 4001 ≤ 4002)) _ (Ow.same_new h_p_2)
        · refine ⟨_, rfl, ?_⟩
          first | have e := Ow.rnd_neg (t := top) (b := bottom) (by assumption) (by assumption) (by assumption) (by assumption) (by assumption) | have e := Ow.rnd_pos (t := top) (b := bottom) (by assumption) (by assumption) (by assumption) (by assumption) (by assumption)
          exact kont q_2 (by first | (rw [e]; simp only [if_true, Bool.false_eq_true, if_false]; done) | (rw [e]; simp only [if_true, Bool.false_eq_true, if_false]; omega)) (Ow.Sz.mono z_q_2 (by decide : 4000 ≤ 4002)) _ (Ow.same_new h_p_2)
    · refine ⟨_, rfl, ?_⟩
      refine ⟨_, rfl, ?_⟩
      refine ⟨_, rfl, fun ab_3 h_ab_3 => ?_⟩
      have hm_ab_3 := Ow.abs_ite h_ab_3
      refine ⟨_, rfl, ?_⟩
      refine ⟨_, _, rfl, (Ow.dmz (by first | assumption | exact Ow.divw64 (by omega) (by omega) | exact Ow.mul0 ⟨by omega, by omega⟩ | exact Ow.mul1 ⟨by omega, by omega⟩ | exact Ow.shl0 (by omega) (by omega) (by omega) | exact ⟨by omega, by omega⟩ | exact ⟨by omega, by omega, by omega⟩ | omega | (simp only [List.length_append, List.length_cons, List.length_nil]; omega) | (subst_vars; omega)) (Ow.Sz.abs c1 h_ab_3) (by decide)), fun q_3 r_3 p_3 h_q_3 h_r_3 h0_r_3 h1_r_3 h_p_3 => ?_⟩
      have z_q_3 : Ow.Sz 4000 q_3 := by rw [h_q_3]; exact Ow.Sz.div (Ow.Sz.abs c1 h_ab_3) (by first | assumption | exact Ow.divw64 (by omega) (by omega) | exact Ow.mul0 ⟨by omega, by omega⟩ | exact Ow.mul1 ⟨by omega, by omega⟩ | exact Ow.shl0 (by omega) (by omega) (by omega) | exact ⟨by omega, by omega⟩ | exact ⟨by omega, by omega, by omega⟩ | omega | (simp only [List.length_append, List.length_cons, List.length_nil]; omega) | (subst_vars; omega))
      refine ⟨_, _, rfl, (SqT.of upd_same), rfl, ?_⟩
      refine ⟨_, _, rfl, ?_⟩
      refine ⟨_, _, rfl, ?_⟩
      refine ⟨rfl, ?_⟩
      refine ⟨_, rfl, ?_⟩
      refine ⟨_, _, _, _, _, rfl, .inr (.inr (.inl ⟨rfl, rfl⟩)), (Ow.at_new h_p_3 c0), rfl, ?_⟩
      refine ⟨_, rfl, ?_⟩
      refine ⟨_, rfl, ?_⟩
      refine ⟨_, rfl, ?_⟩
      refine ⟨_, rfl, ?_⟩
      refine ⟨_, _, rfl, rfl, ?_⟩
      refine ⟨_, _, _, _, _, _, rfl, (Ow.at_new h_p_3 c0), ?_⟩
      refine ⟨_, rfl, ?_⟩
      refine Ow.ifb (fun h7 => ?_) (fun h7 => ?_)
      · refine ⟨_, rfl, ?_⟩
        refine ⟨_, _, rfl, rfl, ?_⟩
        refine ⟨_, rfl, fun quotient_3 h_quotient_3 => ?_⟩
        have z_quotient_3 : Ow.Sz 4001 quotient_3 := by rw [h_quotient_3]; exact (Ow.Sz.add z_q_3 (Ow.Sz.mono (Ow.Sz.lit (n := 1) (i := 1) (by decide)) (by decide : 1 ≤ 4000)))
        refine ⟨_, rfl, ?_⟩
        refine ⟨_, _, rfl, rfl, ?_⟩
        refine ⟨_, rfl, ?_⟩
        refine Ow.ifd (fun h8 => ?_) (fun h8 => ?_)
        · refine ⟨_, rfl, ?_⟩
          refine ⟨_, _, rfl, rfl, ?_⟩
          first | have e := Ow.rnd_neg (t := top) (b := bottom) (by assumption) (by assumption) (by assumption) (by assumption) (by assumption) | have e := Ow.rnd_pos (t := top) (b := bottom) (by assumption) (by assumption) (by assumption) (by assumption) (by assumption)
          exact kont (0 - quotient_3) (by first | (rw [e]; simp only [if_true, Bool.false_eq_true, if_false]; done) | (rw [e]; simp only [if_true, Bool.false_eq_true, if_false]; omega)) (Ow.Sz.sub (Ow.Sz.mono (Ow.Sz.lit (n := 1) (i := 0) (by decide)) (by decide : 1 ≤ 4001)) z_quotient_3) _ (Ow.same_new h_p_3)
        · refine ⟨_, rfl, ?_⟩
          first | have e := Ow.rnd_neg (t := top) (b := bottom) (by assumption) (by assumption) (by assumption) (by assumption) (by assumption) | have e := Ow.rnd_pos (t := top) (b := bottom) (by assumption) (by assumption) (by assumption) (by assumption) (by assumption)
          exact kont quotient_3 (by first | (rw [e]; simp only [if_true, Bool.false_eq_true, if_false]; done) | (rw [e]; simp only [if_true, Bool.false_eq_true, if_false]; omega)) (Ow.Sz.mono z_quotient_3 (by decide : 4001 ≤ 4002)) _ (Ow.same_new h_p_3)
      · refine ⟨_, rfl, ?_⟩
        refine ⟨_, _, rfl, rfl, ?_⟩
        refine ⟨_, rfl, ?_⟩
        refine Ow.ifd (fun h9 => ?_) (fun h9 => ?_)
        · refine ⟨_, rfl, ?_⟩
          refine ⟨_, _, rfl, rfl, ?_⟩
          first | have e := Ow.rnd_neg (t := top) (b := bottom) (by assumption) (by assumption) (by assumption) (by assumption) (by assumption) | have e := Ow.rnd_pos (t := top) (b := bottom) (by assumption) (by assumption) (by assumption) (by assumption) (by assumption)
          exact kont (0 - q_3) (by first | (rw [e]; simp only [if_true, Bool.false_eq_true, if_false]; done) | (rw [e]; simp only [if_true, Bool.false_eq_true, if_false]; omega)) (Ow.Sz.mono (Ow.Sz.sub (Ow.Sz.mono (Ow.Sz.lit (n := 1) (i := 0) (by decide)) (by decide : 1 ≤ 4000)) z_q_3) (by decide : 4001 ≤ 4002)) _ (Ow.same_new h_p_3)
        · refine ⟨_, rfl, ?_⟩
          first | have e := Ow.rnd_neg (t := top) (b := bottom) (by assumption) (by assumption) (by assumption) (by assumption) (by assumption) | have e := Ow.rnd_pos (t := top) (b := bottom) (by assumption) (by assumption) (by assumption) (by assumption) (by assumption)
          exact kont q_3 (by first | (rw [e]; simp only [if_true, Bool.false_eq_true, if_false]; done) | (rw [e]; simp only [if_true, Bool.false_eq_true, if_false]; omega)) (Ow.Sz.mono z_q_3 (by decide : 4000 ≤ 4002)) _ (Ow.same_new h_p_3)
    · refine ⟨_, rfl, ?_⟩
      refine ⟨_, rfl, ?_⟩
      refine ⟨_, rfl, fun ab_4 h_ab_4 => ?_⟩
      have hm_ab_4 := Ow.abs_ite h_ab_4
      refine ⟨_, rfl, ?_⟩
      refine ⟨_, _, rfl, (Ow.dmz (by first | assumption | exact Ow.divw64 (by omega) (by omega) | exact Ow.mul0 ⟨by omega, by omega⟩ | exact Ow.mul1 ⟨by omega, by omega⟩ | exact Ow.shl0 (by omega) (by omega) (by omega) | exact ⟨by omega, by omega⟩ | exact ⟨by omega, by omega, by omega⟩ | omega | (simp only [List.length_append, List.length_cons, List.length_nil]; omega) | (subst_vars; omega)) (Ow.Sz.abs c1 h_ab_4) (by decide)), fun q_4 r_4 p_4 h_q_4 h_r_4 h0_r_4 h1_r_4 h_p_4 => ?_⟩
      have z_q_4 : Ow.Sz 4000 q_4 := by rw [h_q_4]; exact Ow.Sz.div (Ow.Sz.abs c1 h_ab_4) (by first | assumption | exact Ow.divw64 (by omega) (by omega) | exact Ow.mul0 ⟨by omega, by omega⟩ | exact Ow.mul1 ⟨by omega, by omega⟩ | exact Ow.shl0 (by omega) (by omega) (by omega) | exact ⟨by omega, by omega⟩ | exact ⟨by omega, by omega, by omega⟩ | omega | (simp only [List.length_append, List.length_cons, List.length_nil]; omega) | (subst_vars; omega))
      refine ⟨_, _, rfl, (SqT.of upd_same), rfl, ?_⟩
      refine ⟨_, _, rfl, ?_⟩
      refine ⟨_, _, rfl, ?_⟩
      refine ⟨rfl, ?_⟩
      refine ⟨_, rfl, ?_⟩
      refine ⟨_, _, _, _, _, rfl, .inr (.inr (.inr (⟨rfl, rfl⟩))), (Ow.at_new h_p_4 c0), rfl, ?_⟩
      refine ⟨_, rfl, ?_⟩
      refine ⟨_, rfl, ?_⟩
      refine ⟨_, rfl, ?_⟩
      refine ⟨_, rfl, ?_⟩
      refine ⟨_, _, rfl, rfl, ?_⟩
      refine ⟨_, _, _, _, _, _, rfl, (Ow.at_new h_p_4 c0), ?_⟩
      refine ⟨_, rfl, ?_⟩
      refine Ow.ifb (fun h10 => ?_) (fun h10 => ?_)
      · refine ⟨_, rfl, ?_⟩
        refine ⟨_, _, rfl, rfl, ?_⟩
        refine ⟨_, rfl, fun quotient_4 h_quotient_4 => ?_⟩
        have z_quotient_4 : Ow.Sz 4001 quotient_4 := by rw [h_quotient_4]; exact (Ow.Sz.add z_q_4 (Ow.Sz.mono (Ow.Sz.lit (n := 1) (i := 1) (by decide)) (by decide : 1 ≤ 4000)))
        refine ⟨_, rfl, ?_⟩
        refine ⟨_, _, rfl, rfl, ?_⟩
        refine ⟨_, rfl, ?_⟩
        refine Ow.ifd (fun h11 => ?_) (fun h11 => ?_)
        · refine ⟨_, rfl, ?_⟩
          refine ⟨_, _, rfl, rfl, ?_⟩
          first | have e := Ow.rnd_neg (t := top) (b := bottom) (by assumption) (by assumption) (by assumption) (by assumption) (by assumption) | have e := Ow.rnd_pos (t := top) (b := bottom) (by assumption) (by assumption) (by assumption) (by assumption) (by assumption)
          exact kont (0 - quotient_4) (by first | (rw [e]; simp only [if_true, Bool.false_eq_true, if_false]; done) | (rw [e]; simp only [if_true, Bool.false_eq_true, if_false]; omega)) (Ow.Sz.sub (Ow.Sz.mono (Ow.Sz.lit (n := 1) (i := 0) (by decide)) (by decide : 1 ≤ 4001)) z_quotient_4) _ (Ow.same_new h_p_4)
        · refine ⟨_, rfl, ?_⟩
          first | have e := Ow.rnd_neg (t := top) (b := bottom) (by assumption) (by assumption) (by assumption) (by assumption) (by assumption) | have e := Ow.rnd_pos (t := top) (b := bottom) (by assumption) (by assumption) (by assumption) (by assumption) (by assumption)
          exact kont quotient_4 (by first | (rw [e]; simp only [if_true, Bool.false_eq_true, if_false]; done) | (rw [e]; simp only [if_true, Bool.false_eq_true, if_false]; omega)) (Ow.Sz.mono z_quotient_4 (by decide : 4001 ≤ 4002)) _ (Ow.same_new h_p_4)
      · refine ⟨_, rfl, ?_⟩
        refine ⟨_, _, rfl, rfl, ?_⟩
        refine ⟨_, rfl, ?_⟩
        refine Ow.ifd (fun h12 => ?_) (fun h12 => ?_)
        · refine ⟨_, rfl, ?_⟩
          refine ⟨_, _, rfl, rfl, ?_⟩
          first | have e := Ow.rnd_neg (t := top) (b := bottom) (by assumption) (by assumption) (by assumption) (by assumption) (by assumption) | have e := Ow.rnd_pos (t := top) (b := bottom) (by assumption) (by assumption) (by assumption) (by assumption) (by assumption)
          exact kont (0 - q_4) (by first | (rw [e]; simp only [if_true, Bool.false_eq_true, if_false]; done) | (rw [e]; simp only [if_true, Bool.false_eq_true, if_false]; omega)) (Ow.Sz.mono (Ow.Sz.sub (Ow.Sz.mono (Ow.Sz.lit (n := 1) (i := 0) (by decide)) (by decide : 1 ≤ 4000)) z_q_4) (by decide : 4001 ≤ 4002)) _ (Ow.same_new h_p_4)
        · refine ⟨_, rfl, ?_⟩
          first | have e := Ow.rnd_neg (t := top) (b := bottom) (by assumption) (by assumption) (by assumption) (by assumption) (by assumption) | have e := Ow.rnd_pos (t := top) (b := bottom) (by assumption) (by assumption) (by assumption) (by assumption) (by assumption)
          exact kont q_4 (by first | (rw [e]; simp only [if_true, Bool.false_eq_true, if_false]; done) | (rw [e]; simp only [if_true, Bool.false_eq_true, if_false]; omega)) (Ow.Sz.mono z_q_4 (by decide : 4000 ≤ 4002)) _ (Ow.same_new h_p_4)
theorem ok_law (T : Tx K mg) : FnOk P w K mg base CX0 4 T.d_law.f T.d_law.fd ["_law_script"] (sp_law K) := by
  refine T.d_law.F.ok sc_law (fun vs H Q E h => ?_) (fun cdv A outer s H vs Q E hr h => ?_)
  · obtain ⟨script, ns, rfl, _⟩ := h
    rfl
  · obtain ⟨script, ns, rfl, c0, c1, kont⟩ := h
    refine ⟨_, (pss_cons (ps_set (i := 1) sc_law.nd rfl (Or.inl rfl) (pe_lst (pa_cons pe_str (pa_cons pe_str (pa_cons pe_str (pa_cons pe_str pa_nil))))))
        (pss_cons (ps_setLc (i := 2) (g := gName 12) (tt := tYes) rfl sc_law.nd rfl rfl (sw_true rfl rfl rfl (by decide +kernel)) (pi_list (pv 1)) (own := [("_law_word", 12)]) (blkOk_by (N := ["_law_script", "_law_words", "_law_ways", "_law_k", "_law_state", "_law_divisor", "_law_quotient", "_law_rest_here", "_law_turn", "_law_j", "_law_at", "_law_top", "_law_word"]) (sc := defScope s_law) (by decide +kernel)) (fun _ _ _ _ _ => (pg_name (i := 12) sc_law.nd rfl (Or.inl rfl))) (fun _ _ _ _ _ => pts_nil) (fun _ _ _ _ _ => (pe_call (Ow.ok_way_of T) (hr.mono (by decide : 3 ≤ 3)) (by rfl) T.d_way_of.m T.d_way_of.F.kp T.d_way_of.b .nil pass0 (pa_cons (pv 12) pa_nil))))
        (pss_cons (ps_if (pt_cmpR op_eq (pe_op Ow.op_modN (pe_op Ow.op_divN (pe_call (Ow.ok_l_cell T) (hr.mono (by decide : 1 ≤ 3)) (by rfl) T.d_l_cell.m T.d_l_cell.F.kp T.d_l_cell.b .nil pass0 (pa_cons (pv 0) (pa_cons pe_int pa_nil))) pe_int) pe_int) pe_int (nomark _)) (pss_one (ps_set (i := 2) sc_law.nd rfl (Or.inl rfl) (pe_lst (pa_cons (Ow.pe_make00 T.m0_Down (by rfl) T.k_Down.m) (pa_cons (Ow.pe_make00 T.m0_Up (by rfl) T.k_Up.m) (pa_cons (Ow.pe_make00 T.m0_Cut (by rfl) T.k_Cut.m) (pa_cons (Ow.pe_make00 T.m0_Near (by rfl) T.k_Near.m) pa_nil))))))) pss_nil)
        (pss_cons (ps_for PassesOwn.never rfl (pi_range1 (by rfl) T.z_range (pa_cons (Ow.pe_nmi (pe_callB (call_max2 rfl) (by rfl) T.z_max (by decide +kernel) (pa_cons pe_int (pa_cons (Ow.pe_nmi (pe_callB (call_min2 rfl) (by rfl) T.z_min (by decide +kernel) (pa_cons pe_int (pa_cons (Ow.pe_nmi (pe_callB call_len_seq (by rfl) T.z_len (by decide +kernel) (pa_cons (pv 0) pa_nil))) pa_nil)))) pa_nil)))) pa_nil)) (pg_name (i := 3) sc_law.nd rfl (Or.inl rfl)) (pss_cons (ps_set (i := 4) sc_law.nd rfl (Or.inl rfl) (pe_call (Ow.ok_l_begun T) (hr.mono (by decide : 1 ≤ 3)) (by rfl) T.d_l_begun.m T.d_l_begun.F.kp T.d_l_begun.b .nil pass0 (pa_cons (pe_call (Ow.ok_l_cell T) (hr.mono (by decide : 1 ≤ 3)) (by rfl) T.d_l_cell.m T.d_l_cell.F.kp T.d_l_cell.b .nil pass0 (pa_cons (pv 0) (pa_cons (pv 3) pa_nil))) pa_nil)))
        (pss_cons (ps_set (i := 5) sc_law.nd rfl (Or.inl rfl) (Ow.pe_nmi (pe_callB call_abs (by rfl) T.z_abs (by decide +kernel) (pa_cons (pe_call (Ow.ok_l_number T) (hr.mono (by decide : 2 ≤ 3)) (by rfl) T.d_l_number.m T.d_l_number.F.kp T.d_l_number.b .nil pass0 (pa_cons (pv 4) pa_nil)) pa_nil))))
        (pss_cons (ps_if (pt_cmpR op_eq (pv 5) pe_int (nomark _)) (pss_one (ps_set (i := 5) sc_law.nd rfl (Or.inl rfl) (Ow.pe_nmi (pe_op op_add pe_int (pe_call (Ow.ok_l_draw T) (hr.mono (by decide : 1 ≤ 3)) (by rfl) T.d_l_draw.m T.d_l_draw.F.kp T.d_l_draw.b .nil pass0 (pa_cons (pv 4) (pa_cons pe_int pa_nil))))))) pss_nil)
        (pss_cons (ps_set (i := 6) sc_law.nd rfl (Or.inl rfl) (Ow.pe_nmi (pe_callB call_abs (by rfl) T.z_abs (by decide +kernel) (pa_cons (pe_call (Ow.ok_l_number T) (hr.mono (by decide : 2 ≤ 3)) (by rfl) T.d_l_number.m T.d_l_number.F.kp T.d_l_number.b .nil pass0 (pa_cons (pv 4) pa_nil)) pa_nil))))
        (pss_cons (ps_set (i := 7) sc_law.nd rfl (Or.inl rfl) (pe_call (Ow.ok_l_rest T) (hr.mono (by decide : 3 ≤ 3)) (by rfl) T.d_l_rest.m T.d_l_rest.F.kp T.d_l_rest.b .nil pass0 (pa_cons (pv 4) (pa_cons (pv 5) pa_nil))))
        (pss_cons (ps_set (i := 8) sc_law.nd rfl (Or.inl rfl) (pe_call (Ow.ok_l_draw T) (hr.mono (by decide : 1 ≤ 3)) (by rfl) T.d_l_draw.m T.d_l_draw.F.kp T.d_l_draw.b .nil pass0 (pa_cons (pv 4) (pa_cons pe_int pa_nil))))
        (pss_cons (ps_for PassesOwn.never rfl (pi_range1 (by rfl) T.z_range (pa_cons pe_int pa_nil)) (pg_name (i := 9) sc_law.nd rfl (Or.inl rfl)) (pss_cons (ps_set (i := 10) sc_law.nd rfl (Or.inl rfl) (pe_op Ow.op_modN (pe_op op_add (pv 8) (pv 9)) pe_int))
        (pss_cons (ps_if (pt_not (pt_val (pe_call (Ow.ok_l_asked T) (hr.mono (by decide : 2 ≤ 3)) (by rfl) T.d_l_asked.m T.d_l_asked.F.kp T.d_l_asked.b .nil pass0 (pa_cons (pe_ix ix_list (pv 1) (pv 10) (fun _ _ => rfl)) (pa_cons (pe_ix ix_list (pv 2) (pv 10) (fun _ _ => rfl)) (pa_cons (pv 6) (pa_cons (pv 7) (pa_cons (pv 5) (pa_cons (pe_cmpR op_lt (pe_op Ow.op_modN (pe_op op_add (pv 8) (pv 9)) pe_int) pe_int (nomark _)) pa_nil))))))))) (pss_one (ps_ret pe_bl)) pss_nil)
        (pss_cons (ps_set (i := 11) sc_law.nd rfl (Or.inl rfl) (Ow.pe_nmi (pe_op op_add (pe_op Ow.op_mulN pe_int (pv 8)) (pv 9))))
        (pss_one (ps_if (PW.pt (pw_and (pt_cmpR op_lt (pv 8) pe_int (nomark _)) (pw_and1 (pt_not (pt_val (pe_call (Ow.ok_l_right T) (hr.mono (by decide : 1 ≤ 3)) (by rfl) T.d_l_right.m T.d_l_right.F.kp T.d_l_right.b .nil pass0 (pa_cons (pe_ix ix_list (pv 1) (pv 10) (fun _ _ => rfl)) (pa_cons (pv 11) (pa_cons pe_int (pa_cons (Ow.pe_methA (R := fun C sp => (C = T.k_Down.C ∧ sp = sp_Way_rounded T) ∨ (C = T.k_Up.C ∧ sp = sp_Way_rounded T) ∨ (C = T.k_Cut.C ∧ sp = sp_Way_rounded T) ∨ (C = T.k_Near.C ∧ sp = sp_Way_rounded T)) (pe_ix ix_list (pv 2) (pv 10) (fun _ _ => rfl)) (Ow.mal_or (Ow.mal_one ⟨_, _, _, _, T.k_Down.cl, T.mt_Down_rounded, Ow.ok_Way_rounded T, hr.mono (by decide : 2 ≤ 3), T.d_Way_rounded.b⟩) (Ow.mal_or (Ow.mal_one ⟨_, _, _, _, T.k_Up.cl, T.mt_Up_rounded, Ow.ok_Way_rounded T, hr.mono (by decide : 2 ≤ 3), T.d_Way_rounded.b⟩) (Ow.mal_or (Ow.mal_one ⟨_, _, _, _, T.k_Cut.cl, T.mt_Cut_rounded, Ow.ok_Way_rounded T, hr.mono (by decide : 2 ≤ 3), T.d_Way_rounded.b⟩) (Ow.mal_one ⟨_, _, _, _, T.k_Near.cl, T.mt_Near_rounded, Ow.ok_Way_rounded T, hr.mono (by decide : 2 ≤ 3), T.d_Way_rounded.b⟩)))) pass0 (pa_cons (pv 11) (pa_cons pe_int pa_nil))) pa_nil)))))))))) (pss_one (ps_ret pe_bl)) pss_nil))))))
        (pss_cons (ps_set (i := 10) sc_law.nd rfl (Or.inl rfl) (pe_op Ow.op_modN (pv 8) pe_int))
        (pss_one (ps_if (pt_not (pt_val (pe_call (Ow.ok_l_asked T) (hr.mono (by decide : 2 ≤ 3)) (by rfl) T.d_l_asked.m T.d_l_asked.F.kp T.d_l_asked.b .nil pass0 (pa_cons (pe_ix ix_list (pv 1) (pv 10) (fun _ _ => rfl)) (pa_cons (pe_ix ix_list (pv 2) (pv 10) (fun _ _ => rfl)) (pa_cons (pe_op op_add (pv 6) pe_int) (pa_cons (pv 7) (pa_cons (pv 5) (pa_cons (pe_cmpR op_lt (pv 8) pe_int (nomark _)) pa_nil))))))))) (pss_one (ps_ret pe_bl)) pss_nil)))))))))))
        (pss_one (ps_ret pe_bl)))))), ?_⟩
    refine ⟨by show 4 ≤ sizeLine; decide, fun p h_p => ?_⟩
    refine ⟨_, rfl, ?_⟩
    refine ⟨_, rfl, ⟨_, (SqL.of upd_same)⟩, ?_⟩
    intro D h_D
    refine Ow.unlc_start (K := K) (a := p) (xs := [.str ("down"), .str ("up"), .str ("cut"), .str ("near")]) ?_
    refine ⟨(SqL.of (Ow.at_new h_D upd_same)), ?_⟩
    refine ⟨rfl, ?_⟩
    refine Ow.tyes ?_
    refine iteT ?_
    refine ⟨_, rfl, ?_⟩
    refine ⟨_, Ow.F_Way.Down, rfl, rfl, fun o dx Hn h1 h2 h3 => ?_⟩
    refine ⟨_, (h1 _ _ upd_same), (by show 0 < sizeLine; decide), ?_⟩
    refine ⟨(SqL.of (Ow.at_mut (ne_of_none upd_same h_D) (h1 _ _ (Ow.at_new h_D upd_same)))), ?_⟩
    refine ⟨rfl, ?_⟩
    refine Ow.tyes ?_
    refine iteT ?_
    refine ⟨_, rfl, ?_⟩
    refine ⟨_, Ow.F_Way.Up, rfl, rfl, fun o_2 dx_2 Hn_2 h4 h5 h6 => ?_⟩
    refine ⟨_, (h4 _ _ upd_same), (by show 1 < sizeLine; decide), ?_⟩
    refine ⟨(SqL.of (Ow.at_mut (ne_of_none upd_same h_D) (h4 _ _ (Ow.at_mut (ne_of_none upd_same h_D) (h1 _ _ (Ow.at_new h_D upd_same)))))), ?_⟩
    refine ⟨rfl, ?_⟩
    refine Ow.tyes ?_
    refine iteT ?_
    refine ⟨_, rfl, ?_⟩
    refine ⟨_, Ow.F_Way.Cut, rfl, rfl, fun o_3 dx_3 Hn_3 h7 h8 h9 => ?_⟩
    refine ⟨_, (h7 _ _ upd_same), (by show 2 < sizeLine; decide), ?_⟩
    refine ⟨(SqL.of (Ow.at_mut (ne_of_none upd_same h_D) (h7 _ _ (Ow.at_mut (ne_of_none upd_same h_D) (h4 _ _ (Ow.at_mut (ne_of_none upd_same h_D) (h1 _ _ (Ow.at_new h_D upd_same)))))))), ?_⟩
    refine ⟨rfl, ?_⟩
    refine Ow.tyes ?_
    refine iteT ?_
    refine ⟨_, rfl, ?_⟩
    refine ⟨_, Ow.F_Way.Near, rfl, rfl, fun o_4 dx_4 Hn_4 h10 h11 h12 => ?_⟩
    refine ⟨_, (h10 _ _ upd_same), (by show 3 < sizeLine; decide), ?_⟩
    refine ⟨(SqL.of (Ow.at_mut (ne_of_none upd_same h_D) (h10 _ _ (Ow.at_mut (ne_of_none upd_same h_D) (h7 _ _ (Ow.at_mut (ne_of_none upd_same h_D) (h4 _ _ (Ow.at_mut (ne_of_none upd_same h_D) (h1 _ _ (Ow.at_new h_D upd_same)))))))))), ?_⟩
    refine ⟨_, rfl, ?_⟩
    refine ⟨_, _, _, rfl, (Ow.seq (Ow.same_mut ((Ow.same_mut ((Ow.same_mut ((Ow.same_mut (((Ow.same_new h_p).trans (Ow.same_new h_D)).trans h1) (Same.free (Ow.same_new h_p) h_D)).trans h4) (Same.free (Ow.same_new h_p) h_D)).trans h7) (Same.free (Ow.same_new h_p) h_D)).trans h10) (Same.free (Ow.same_new h_p) h_D)) c0), (by first | assumption | exact Ow.divw64 (by omega) (by omega) | exact Ow.mul0 ⟨by omega, by omega⟩ | exact Ow.mul1 ⟨by omega, by omega⟩ | exact Ow.shl0 (by omega) (by omega) (by omega) | exact ⟨by omega, by omega⟩ | exact ⟨by omega, by omega, by omega⟩ | omega | (simp only [List.length_append, List.length_cons, List.length_nil]; omega) | (subst_vars; omega)), (by first | assumption | exact Ow.divw64 (by omega) (by omega) | exact Ow.mul0 ⟨by omega, by omega⟩ | exact Ow.mul1 ⟨by omega, by omega⟩ | exact Ow.shl0 (by omega) (by omega) (by omega) | exact ⟨by omega, by omega⟩ | exact ⟨by omega, by omega, by omega⟩ | omega | (simp only [List.length_append, List.length_cons, List.length_nil]; omega) | (subst_vars; omega)), fun t => ?_⟩
    refine ⟨_, _, rfl, rfl, Ow.divz (by first | assumption | exact Ow.divw64 (by omega) (by omega) | exact Ow.mul0 ⟨by omega, by omega⟩ | exact Ow.mul1 ⟨by omega, by omega⟩ | exact Ow.shl0 (by omega) (by omega) (by omega) | exact ⟨by omega, by omega⟩ | exact ⟨by omega, by omega, by omega⟩ | omega | (simp only [List.length_append, List.length_cons, List.length_nil]; omega) | (subst_vars; omega)) (Ow.Sz.lit (n := 3) (i := 7) (by decide)) (by decide) (by decide), fun q h_q => ?_⟩
    refine ⟨_, _, rfl, rfl, (by first | assumption | exact Ow.divw64 (by omega) (by omega) | exact Ow.mul0 ⟨by omega, by omega⟩ | exact Ow.mul1 ⟨by omega, by omega⟩ | exact Ow.shl0 (by omega) (by omega) (by omega) | exact ⟨by omega, by omega⟩ | exact ⟨by omega, by omega, by omega⟩ | omega | (simp only [List.length_append, List.length_cons, List.length_nil]; omega) | (subst_vars; omega)), fun r h_r h0_r h1_r => ?_⟩
    refine ⟨rfl, ?_⟩
    refine ⟨_, rfl, ?_⟩
    refine Ow.ifeqi (fun h13 => ?_) (fun h13 => ?_)
    · intro o_5 dx_5 h14 h15 h16
      intro o_6 dx_6 h17 h18 h19
      intro o_7 dx_7 h20 h21 h22
      intro o_8 dx_8 h23 h24 h25
      refine ⟨by show 4 ≤ sizeLine; decide, fun p_2 h_p_2 => ?_⟩
      refine ⟨_, rfl, ?_⟩
      refine ⟨_, _, rfl, .inl (Ow.seq ((((((((((Ow.same_mut ((Ow.same_mut ((Ow.same_mut ((Ow.same_mut (((Ow.same_new h_p).trans (Ow.same_new h_D)).trans h1) (Same.free (Ow.same_new h_p) h_D)).trans h4) (Same.free (Ow.same_new h_p) h_D)).trans h7) (Same.free (Ow.same_new h_p) h_D)).trans h10) (Same.free (Ow.same_new h_p) h_D)).trans (Ow.same_new h15)).trans (Ow.same_new (Ow.free2 h16 h14))).trans (Ow.same_new h18)).trans (Ow.same_new (Ow.free2 h19 h17))).trans (Ow.same_new h21)).trans (Ow.same_new (Ow.free2 h22 h20))).trans (Ow.same_new h24)).trans (Ow.same_new (Ow.free2 h25 h23))).trans (Ow.same_new h_p_2)) c0), ?_⟩
      refine ⟨_, rfl, fun len h_len => ?_⟩
      rw [List.length_map] at h_len
      refine ⟨_, _, rfl, ?_⟩
      refine ⟨_, rfl, fun m h_m => ?_⟩
      have hm_m := Ow.min_ite h_m
      refine ⟨_, _, rfl, ?_⟩
      refine ⟨_, rfl, fun m_2 h_m_2 => ?_⟩
      have hm_m_2 := Ow.max_ite h_m_2
      refine ⟨_, rfl, (by first | assumption | exact Ow.divw64 (by omega) (by omega) | exact Ow.mul0 ⟨by omega, by omega⟩ | exact Ow.mul1 ⟨by omega, by omega⟩ | exact Ow.shl0 (by omega) (by omega) (by omega) | exact ⟨by omega, by omega⟩ | exact ⟨by omega, by omega, by omega⟩ | omega | (simp only [List.length_append, List.length_cons, List.length_nil]; omega) | (subst_vars; omega)), (by first | assumption | exact Ow.divw64 (by omega) (by omega) | exact Ow.mul0 ⟨by omega, by omega⟩ | exact Ow.mul1 ⟨by omega, by omega⟩ | exact Ow.shl0 (by omega) (by omega) (by omega) | exact ⟨by omega, by omega⟩ | exact ⟨by omega, by omega, by omega⟩ | omega | (simp only [List.length_append, List.length_cons, List.length_nil]; omega) | (subst_vars; omega)), ?_⟩
      refine for_range (lo := 0) (fun i σ2 H2 => ∃ (v_3 : Option V) (v_4 : Option V) (v_5 : Option V) (v_6 : Option V) (v_7 : Option V) (v_8 : Option V) (v_9 : Option V) (v_10 : Option V) (v_11 : Option V) (v_12 : Option V), σ2 = [some (.ref script), some (.ref p), some (.ref p_2), v_3, v_4, v_5, v_6, v_7, v_8, v_9, v_10, v_11, v_12] ∧ Same _ H2) ⟨_, _, _, _, _, _, _, _, _, _, rfl, Same.refl _⟩ ?_ ?_
      · rintro i _ Hn_5 h27 ⟨_, _, _, _, _, _, _, _, _, _, rfl, h26⟩
        refine Ow.gturn (fun l_k h_l_k => ?_)
        refine ⟨_, rfl, ?_⟩
        refine ⟨_, rfl, ?_⟩
        refine ⟨_, _, _, rfl, (Ow.seq (((((((((((Ow.same_mut ((Ow.same_mut ((Ow.same_mut ((Ow.same_mut (((Ow.same_new h_p).trans (Ow.same_new h_D)).trans h1) (Same.free (Ow.same_new h_p) h_D)).trans h4) (Same.free (Ow.same_new h_p) h_D)).trans h7) (Same.free (Ow.same_new h_p) h_D)).trans h10) (Same.free (Ow.same_new h_p) h_D)).trans (Ow.same_new h15)).trans (Ow.same_new (Ow.free2 h16 h14))).trans (Ow.same_new h18)).trans (Ow.same_new (Ow.free2 h19 h17))).trans (Ow.same_new h21)).trans (Ow.same_new (Ow.free2 h22 h20))).trans (Ow.same_new h24)).trans (Ow.same_new (Ow.free2 h25 h23))).trans (Ow.same_new h_p_2)).trans h26) c0), (by first | assumption | exact Ow.divw64 (by omega) (by omega) | exact Ow.mul0 ⟨by omega, by omega⟩ | exact Ow.mul1 ⟨by omega, by omega⟩ | exact Ow.shl0 (by omega) (by omega) (by omega) | exact ⟨by omega, by omega⟩ | exact ⟨by omega, by omega, by omega⟩ | omega | (simp only [List.length_append, List.length_cons, List.length_nil]; omega) | (subst_vars; omega)), (by first | assumption | exact Ow.divw64 (by omega) (by omega) | exact Ow.mul0 ⟨by omega, by omega⟩ | exact Ow.mul1 ⟨by omega, by omega⟩ | exact Ow.shl0 (by omega) (by omega) (by omega) | exact ⟨by omega, by omega⟩ | exact ⟨by omega, by omega, by omega⟩ | omega | (simp only [List.length_append, List.length_cons, List.length_nil]; omega) | (subst_vars; omega)), fun t_2 => ?_⟩
        refine ⟨_, rfl, fun a n p_3 h_p_3 => ?_⟩
        refine ⟨_, rfl, ?_⟩
        refine ⟨_, _, _, _, rfl, upd_same, fun t_3 a2 n2 h28 => ?_⟩
        refine ⟨_, rfl, ?_⟩
        refine ⟨_, rfl, fun ab h_ab => ?_⟩
        have hm_ab := Ow.abs_ite h_ab
        refine ⟨_, rfl, ?_⟩
        refine ⟨rfl, ?_⟩
        refine ⟨_, rfl, ?_⟩
        refine Ow.ifeqi (fun h29 => ?_) (fun h29 => ?_)
        · refine ⟨_, rfl, ?_⟩
          refine ⟨_, _, _, _, _, rfl, upd_same, (by first | assumption | exact Ow.divw64 (by omega) (by omega) | exact Ow.mul0 ⟨by omega, by omega⟩ | exact Ow.mul1 ⟨by omega, by omega⟩ | exact Ow.shl0 (by omega) (by omega) (by omega) | exact ⟨by omega, by omega⟩ | exact ⟨by omega, by omega, by omega⟩ | omega | (simp only [List.length_append, List.length_cons, List.length_nil]; omega) | (subst_vars; omega)), (by first | assumption | exact Ow.divw64 (by omega) (by omega) | exact Ow.mul0 ⟨by omega, by omega⟩ | exact Ow.mul1 ⟨by omega, by omega⟩ | exact Ow.shl0 (by omega) (by omega) (by omega) | exact ⟨by omega, by omega⟩ | exact ⟨by omega, by omega, by omega⟩ | omega | (simp only [List.length_append, List.length_cons, List.length_nil]; omega) | (subst_vars; omega)), fun t_4 a2_2 n2_2 h30 h31 => ?_⟩
          refine ⟨_, _, rfl, rfl, ?_⟩
          refine ⟨_, rfl, fun l_divisor h_l_divisor => ?_⟩
          have z_l_divisor : Ow.Sz 5 l_divisor := by rw [h_l_divisor]; exact (Ow.Sz.add (Ow.Sz.mono (Ow.Sz.lit (n := 1) (i := 1) (by decide)) (by decide : 1 ≤ 4)) (Ow.Sz.rng (n := 4) h30 h31 (by decide)))
          refine ⟨_, rfl, ?_⟩
          refine ⟨_, _, _, _, rfl, upd_same, fun t_5 a2_3 n2_3 h32 => ?_⟩
          refine ⟨_, rfl, ?_⟩
          refine ⟨_, rfl, fun ab_2 h_ab_2 => ?_⟩
          have hm_ab_2 := Ow.abs_ite h_ab_2
          refine ⟨_, rfl, ?_⟩
          refine ⟨_, rfl, ?_⟩
          refine ⟨_, _, _, _, _, rfl, upd_same, (by first | assumption | exact Ow.divw64 (by omega) (by omega) | exact Ow.mul0 ⟨by omega, by omega⟩ | exact Ow.mul1 ⟨by omega, by omega⟩ | exact Ow.shl0 (by omega) (by omega) (by omega) | exact ⟨by omega, by omega⟩ | exact ⟨by omega, by omega, by omega⟩ | omega | (simp only [List.length_append, List.length_cons, List.length_nil]; omega) | (subst_vars; omega)), (Ow.Sz.mono z_l_divisor (by decide : 5 ≤ 2340)), fun l_rest_here a2_4 n2_4 h33 h34 h35 Hn_6 h36 h37 => ?_⟩
          refine ⟨_, rfl, ?_⟩
          refine ⟨_, _, _, _, _, rfl, h37, (by first | assumption | exact Ow.divw64 (by omega) (by omega) | exact Ow.mul0 ⟨by omega, by omega⟩ | exact Ow.mul1 ⟨by omega, by omega⟩ | exact Ow.shl0 (by omega) (by omega) (by omega) | exact ⟨by omega, by omega⟩ | exact ⟨by omega, by omega, by omega⟩ | omega | (simp only [List.length_append, List.length_cons, List.length_nil]; omega) | (subst_vars; omega)), (by first | assumption | exact Ow.divw64 (by omega) (by omega) | exact Ow.mul0 ⟨by omega, by omega⟩ | exact Ow.mul1 ⟨by omega, by omega⟩ | exact Ow.shl0 (by omega) (by omega) (by omega) | exact ⟨by omega, by omega⟩ | exact ⟨by omega, by omega, by omega⟩ | omega | (simp only [List.length_append, List.length_cons, List.length_nil]; omega) | (subst_vars; omega)), fun l_turn a2_5 n2_5 h38 h39 => ?_⟩
          refine ⟨_, rfl, (by first | assumption | exact Ow.divw64 (by omega) (by omega) | exact Ow.mul0 ⟨by omega, by omega⟩ | exact Ow.mul1 ⟨by omega, by omega⟩ | exact Ow.shl0 (by omega) (by omega) (by omega) | exact ⟨by omega, by omega⟩ | exact ⟨by omega, by omega, by omega⟩ | omega | (simp only [List.length_append, List.length_cons, List.length_nil]; omega) | (subst_vars; omega)), (by first | assumption | exact Ow.divw64 (by omega) (by omega) | exact Ow.mul0 ⟨by omega, by omega⟩ | exact Ow.mul1 ⟨by omega, by omega⟩ | exact Ow.shl0 (by omega) (by omega) (by omega) | exact ⟨by omega, by omega⟩ | exact ⟨by omega, by omega, by omega⟩ | omega | (simp only [List.length_append, List.length_cons, List.length_nil]; omega) | (subst_vars; omega)), ?_⟩
          refine for_range (lo := 0) (fun i σ2 H2 => ∃ (v_9 : Option V) (v_10 : Option V) (v_11 : Option V) (v_12 : Option V), σ2 = [some (.ref script), some (.ref p), some (.ref p_2), some (.int (l_k)), some (.ref p_3), some (.int (l_divisor)), some (.int (ab_2)), some (.int (l_rest_here)), some (.int (l_turn)), v_9, v_10, v_11, v_12] ∧ Same _ H2) ⟨_, _, _, _, rfl, Same.refl _⟩ ?_ ?_
          · rintro i_2 _ Hn_7 h41 ⟨_, _, _, _, rfl, h40⟩
            refine Ow.gturn (fun l_j h_l_j => ?_)
            have z_l_j : Ow.Sz 4 l_j := by unfold Ow.Sz; omega
            refine ⟨_, rfl, ?_⟩
            refine ⟨_, rfl, ?_⟩
            refine ⟨_, _, rfl, rfl, ?_⟩
            refine ⟨_, _, rfl, rfl, (by first | assumption | exact Ow.divw64 (by omega) (by omega) | exact Ow.mul0 ⟨by omega, by omega⟩ | exact Ow.mul1 ⟨by omega, by omega⟩ | exact Ow.shl0 (by omega) (by omega) (by omega) | exact ⟨by omega, by omega⟩ | exact ⟨by omega, by omega, by omega⟩ | omega | (simp only [List.length_append, List.length_cons, List.length_nil]; omega) | (subst_vars; omega)), fun l_at h_l_at h0_l_at h1_l_at => ?_⟩
            refine ⟨_, rfl, ?_⟩
            refine ⟨_, rfl, ?_⟩
            refine Ow.ixs4 (SqL.of (h40 _ _ (Ow.at_mut (ne_of_none (h26 _ _ (Ow.at_new h_p_2 (Ow.at_new (Ow.free2 h25 h23) (Ow.at_new h24 (Ow.at_new (Ow.free2 h22 h20) (Ow.at_new h21 (Ow.at_new (Ow.free2 h19 h17) (Ow.at_new h18 (Ow.at_new (Ow.free2 h16 h14) (Ow.at_new h15 (Ow.at_mut (ne_of_none upd_same h_D) (h10 _ _ (Ow.at_mut (ne_of_none upd_same h_D) (h7 _ _ (Ow.at_mut (ne_of_none upd_same h_D) (h4 _ _ (Ow.at_mut (ne_of_none upd_same h_D) (h1 _ _ (Ow.at_new h_D upd_same))))))))))))))))))) h_p_3) (h36 _ _ (ne_of_none (h26 _ _ (Ow.at_new h_p_2 (Ow.at_new (Ow.free2 h25 h23) (Ow.at_new h24 (Ow.at_new (Ow.free2 h22 h20) (Ow.at_new h21 (Ow.at_new (Ow.free2 h19 h17) (Ow.at_new h18 (Ow.at_new (Ow.free2 h16 h14) (Ow.at_new h15 (Ow.at_mut (ne_of_none upd_same h_D) (h10 _ _ (Ow.at_mut (ne_of_none upd_same h_D) (h7 _ _ (Ow.at_mut (ne_of_none upd_same h_D) (h4 _ _ (Ow.at_mut (ne_of_none upd_same h_D) (h1 _ _ (Ow.at_new h_D upd_same))))))))))))))))))) h_p_3) (Ow.at_mut (ne_of_none (h26 _ _ (Ow.at_new h_p_2 (Ow.at_new (Ow.free2 h25 h23) (Ow.at_new h24 (Ow.at_new (Ow.free2 h22 h20) (Ow.at_new h21 (Ow.at_new (Ow.free2 h19 h17) (Ow.at_new h18 (Ow.at_new (Ow.free2 h16 h14) (Ow.at_new h15 (Ow.at_mut (ne_of_none upd_same h_D) (h10 _ _ (Ow.at_mut (ne_of_none upd_same h_D) (h7 _ _ (Ow.at_mut (ne_of_none upd_same h_D) (h4 _ _ (Ow.at_mut (ne_of_none upd_same h_D) (h1 _ _ (Ow.at_new h_D upd_same))))))))))))))))))) h_p_3) (Ow.at_mut (ne_of_none (h26 _ _ (Ow.at_new h_p_2 (Ow.at_new (Ow.free2 h25 h23) (Ow.at_new h24 (Ow.at_new (Ow.free2 h22 h20) (Ow.at_new h21 (Ow.at_new (Ow.free2 h19 h17) (Ow.at_new h18 (Ow.at_new (Ow.free2 h16 h14) (Ow.at_new h15 (Ow.at_mut (ne_of_none upd_same h_D) (h10 _ _ (Ow.at_mut (ne_of_none upd_same h_D) (h7 _ _ (Ow.at_mut (ne_of_none upd_same h_D) (h4 _ _ (Ow.at_mut (ne_of_none upd_same h_D) (h1 _ _ (Ow.at_new h_D upd_same))))))))))))))))))) h_p_3) (Ow.at_mut (ne_of_none (h26 _ _ (Ow.at_new h_p_2 (Ow.at_new (Ow.free2 h25 h23) (Ow.at_new h24 (Ow.at_new (Ow.free2 h22 h20) (Ow.at_new h21 (Ow.at_new (Ow.free2 h19 h17) (Ow.at_new h18 (Ow.at_new (Ow.free2 h16 h14) (Ow.at_new h15 (Ow.at_mut (ne_of_none upd_same h_D) (h10 _ _ (Ow.at_mut (ne_of_none upd_same h_D) (h7 _ _ (Ow.at_mut (ne_of_none upd_same h_D) (h4 _ _ (Ow.at_mut (ne_of_none upd_same h_D) (h1 _ _ (Ow.at_new h_D upd_same))))))))))))))))))) h_p_3) (Ow.at_new h_p_3 (h26 _ _ (Ow.at_new h_p_2 (Ow.at_new (Ow.free2 h25 h23) (Ow.at_new h24 (Ow.at_new (Ow.free2 h22 h20) (Ow.at_new h21 (Ow.at_new (Ow.free2 h19 h17) (Ow.at_new h18 (Ow.at_new (Ow.free2 h16 h14) (Ow.at_new h15 (Ow.at_mut (ne_of_none upd_same h_D) (h10 _ _ (Ow.at_mut (ne_of_none upd_same h_D) (h7 _ _ (Ow.at_mut (ne_of_none upd_same h_D) (h4 _ _ (Ow.at_mut (ne_of_none upd_same h_D) (h1 _ _ (Ow.at_new h_D upd_same))))))))))))))))))))))))))) (by first | assumption | exact Ow.divw64 (by omega) (by omega) | exact Ow.mul0 ⟨by omega, by omega⟩ | exact Ow.mul1 ⟨by omega, by omega⟩ | exact Ow.shl0 (by omega) (by omega) (by omega) | exact ⟨by omega, by omega⟩ | exact ⟨by omega, by omega, by omega⟩ | omega | (simp only [List.length_append, List.length_cons, List.length_nil]; omega) | (subst_vars; omega)) (fun it h_it => ?_)
            refine ⟨_, rfl, ?_⟩
            refine ⟨_, rfl, ?_⟩
            refine ixo_Way T (i := l_at) (SqL.of (h40 _ _ (Ow.at_mut (ne_of_none (h26 _ _ upd_same) h_p_3) (h36 _ _ (ne_of_none (h26 _ _ upd_same) h_p_3) (Ow.at_mut (ne_of_none (h26 _ _ upd_same) h_p_3) (Ow.at_mut (ne_of_none (h26 _ _ upd_same) h_p_3) (Ow.at_mut (ne_of_none (h26 _ _ upd_same) h_p_3) (Ow.at_new h_p_3 (h26 _ _ upd_same))))))))) (h40 _ _ (Ow.at_mut (ne_of_none (h26 _ _ (Ow.at_new h_p_2 (Ow.at_new (Ow.free2 h25 h23) (Ow.at_new h24 (Ow.at_new (Ow.free2 h22 h20) (Ow.at_new h21 (Ow.at_new (Ow.free2 h19 h17) (Ow.at_new h18 upd_same)))))))) h_p_3) (h36 _ _ (ne_of_none (h26 _ _ (Ow.at_new h_p_2 (Ow.at_new (Ow.free2 h25 h23) (Ow.at_new h24 (Ow.at_new (Ow.free2 h22 h20) (Ow.at_new h21 (Ow.at_new (Ow.free2 h19 h17) (Ow.at_new h18 upd_same)))))))) h_p_3) (Ow.at_mut (ne_of_none (h26 _ _ (Ow.at_new h_p_2 (Ow.at_new (Ow.free2 h25 h23) (Ow.at_new h24 (Ow.at_new (Ow.free2 h22 h20) (Ow.at_new h21 (Ow.at_new (Ow.free2 h19 h17) (Ow.at_new h18 upd_same)))))))) h_p_3) (Ow.at_mut (ne_of_none (h26 _ _ (Ow.at_new h_p_2 (Ow.at_new (Ow.free2 h25 h23) (Ow.at_new h24 (Ow.at_new (Ow.free2 h22 h20) (Ow.at_new h21 (Ow.at_new (Ow.free2 h19 h17) (Ow.at_new h18 upd_same)))))))) h_p_3) (Ow.at_mut (ne_of_none (h26 _ _ (Ow.at_new h_p_2 (Ow.at_new (Ow.free2 h25 h23) (Ow.at_new h24 (Ow.at_new (Ow.free2 h22 h20) (Ow.at_new h21 (Ow.at_new (Ow.free2 h19 h17) (Ow.at_new h18 upd_same)))))))) h_p_3) (Ow.at_new h_p_3 (h26 _ _ (Ow.at_new h_p_2 (Ow.at_new (Ow.free2 h25 h23) (Ow.at_new h24 (Ow.at_new (Ow.free2 h22 h20) (Ow.at_new h21 (Ow.at_new (Ow.free2 h19 h17) (Ow.at_new h18 upd_same))))))))))))))) (h40 _ _ (Ow.at_mut (ne_of_none (h26 _ _ (Ow.at_new h_p_2 (Ow.at_new (Ow.free2 h25 h23) (Ow.at_new h24 (Ow.at_new (Ow.free2 h22 h20) (Ow.at_new h21 upd_same)))))) h_p_3) (h36 _ _ (ne_of_none (h26 _ _ (Ow.at_new h_p_2 (Ow.at_new (Ow.free2 h25 h23) (Ow.at_new h24 (Ow.at_new (Ow.free2 h22 h20) (Ow.at_new h21 upd_same)))))) h_p_3) (Ow.at_mut (ne_of_none (h26 _ _ (Ow.at_new h_p_2 (Ow.at_new (Ow.free2 h25 h23) (Ow.at_new h24 (Ow.at_new (Ow.free2 h22 h20) (Ow.at_new h21 upd_same)))))) h_p_3) (Ow.at_mut (ne_of_none (h26 _ _ (Ow.at_new h_p_2 (Ow.at_new (Ow.free2 h25 h23) (Ow.at_new h24 (Ow.at_new (Ow.free2 h22 h20) (Ow.at_new h21 upd_same)))))) h_p_3) (Ow.at_mut (ne_of_none (h26 _ _ (Ow.at_new h_p_2 (Ow.at_new (Ow.free2 h25 h23) (Ow.at_new h24 (Ow.at_new (Ow.free2 h22 h20) (Ow.at_new h21 upd_same)))))) h_p_3) (Ow.at_new h_p_3 (h26 _ _ (Ow.at_new h_p_2 (Ow.at_new (Ow.free2 h25 h23) (Ow.at_new h24 (Ow.at_new (Ow.free2 h22 h20) (Ow.at_new h21 upd_same))))))))))))) (h40 _ _ (Ow.at_mut (ne_of_none (h26 _ _ (Ow.at_new h_p_2 (Ow.at_new (Ow.free2 h25 h23) (Ow.at_new h24 upd_same)))) h_p_3) (h36 _ _ (ne_of_none (h26 _ _ (Ow.at_new h_p_2 (Ow.at_new (Ow.free2 h25 h23) (Ow.at_new h24 upd_same)))) h_p_3) (Ow.at_mut (ne_of_none (h26 _ _ (Ow.at_new h_p_2 (Ow.at_new (Ow.free2 h25 h23) (Ow.at_new h24 upd_same)))) h_p_3) (Ow.at_mut (ne_of_none (h26 _ _ (Ow.at_new h_p_2 (Ow.at_new (Ow.free2 h25 h23) (Ow.at_new h24 upd_same)))) h_p_3) (Ow.at_mut (ne_of_none (h26 _ _ (Ow.at_new h_p_2 (Ow.at_new (Ow.free2 h25 h23) (Ow.at_new h24 upd_same)))) h_p_3) (Ow.at_new h_p_3 (h26 _ _ (Ow.at_new h_p_2 (Ow.at_new (Ow.free2 h25 h23) (Ow.at_new h24 upd_same))))))))))) (h40 _ _ (Ow.at_mut (ne_of_none (h26 _ _ (Ow.at_new h_p_2 upd_same)) h_p_3) (h36 _ _ (ne_of_none (h26 _ _ (Ow.at_new h_p_2 upd_same)) h_p_3) (Ow.at_mut (ne_of_none (h26 _ _ (Ow.at_new h_p_2 upd_same)) h_p_3) (Ow.at_mut (ne_of_none (h26 _ _ (Ow.at_new h_p_2 upd_same)) h_p_3) (Ow.at_mut (ne_of_none (h26 _ _ (Ow.at_new h_p_2 upd_same)) h_p_3) (Ow.at_new h_p_3 (h26 _ _ (Ow.at_new h_p_2 upd_same))))))))) (by first | assumption | exact Ow.divw64 (by omega) (by omega) | exact Ow.mul0 ⟨by omega, by omega⟩ | exact Ow.mul1 ⟨by omega, by omega⟩ | exact Ow.shl0 (by omega) (by omega) (by omega) | exact ⟨by omega, by omega⟩ | exact ⟨by omega, by omega, by omega⟩ | omega | (simp only [List.length_append, List.length_cons, List.length_nil]; omega) | (subst_vars; omega)) (fun wy o_9 dx_9 h_wy h_o_9 => ?_)
            have hw_wy : it = Ow.wrd_Way wy := by rcases h_it with ⟨hz, rfl⟩ | ⟨hz, rfl⟩ | ⟨hz, rfl⟩ | ⟨hz, rfl⟩ <;> cases wy <;> first | rfl | (exfalso; simp only [ix_Way] at h_wy; omega)
            refine ⟨_, rfl, ?_⟩
            refine ⟨_, rfl, ?_⟩
            refine ⟨_, rfl, ?_⟩
            refine ⟨_, rfl, ?_⟩
            refine ⟨_, rfl, ?_⟩
            refine ⟨_, _, rfl, rfl, ?_⟩
            refine ⟨_, _, rfl, rfl, (by first | assumption | exact Ow.divw64 (by omega) (by omega) | exact Ow.mul0 ⟨by omega, by omega⟩ | exact Ow.mul1 ⟨by omega, by omega⟩ | exact Ow.shl0 (by omega) (by omega) (by omega) | exact ⟨by omega, by omega⟩ | exact ⟨by omega, by omega, by omega⟩ | omega | (simp only [List.length_append, List.length_cons, List.length_nil]; omega) | (subst_vars; omega)), fun r_2 h_r_2 h0_r_2 h1_r_2 => ?_⟩
            refine ⟨_, _, rfl, rfl, ?_⟩
            refine ⟨_, _, _, _, _, _, wy, _, rfl, (by first | assumption | exact Ow.divw64 (by omega) (by omega) | exact Ow.mul0 ⟨by omega, by omega⟩ | exact Ow.mul1 ⟨by omega, by omega⟩ | exact Ow.shl0 (by omega) (by omega) (by omega) | exact ⟨by omega, by omega⟩ | exact ⟨by omega, by omega, by omega⟩ | omega | (simp only [List.length_append, List.length_cons, List.length_nil]; omega) | (subst_vars; omega)), h_o_9, (by first | assumption | exact Ow.divw64 (by omega) (by omega) | exact Ow.mul0 ⟨by omega, by omega⟩ | exact Ow.mul1 ⟨by omega, by omega⟩ | exact Ow.shl0 (by omega) (by omega) (by omega) | exact ⟨by omega, by omega⟩ | exact ⟨by omega, by omega, by omega⟩ | omega | (simp only [List.length_append, List.length_cons, List.length_nil]; omega) | (subst_vars; omega)), (by first | assumption | exact Ow.divw64 (by omega) (by omega) | exact Ow.mul0 ⟨by omega, by omega⟩ | exact Ow.mul1 ⟨by omega, by omega⟩ | exact Ow.shl0 (by omega) (by omega) (by omega) | exact ⟨by omega, by omega⟩ | exact ⟨by omega, by omega, by omega⟩ | omega | (simp only [List.length_append, List.length_cons, List.length_nil]; omega) | (subst_vars; omega)), (by first | assumption | exact Ow.divw64 (by omega) (by omega) | exact Ow.mul0 ⟨by omega, by omega⟩ | exact Ow.mul1 ⟨by omega, by omega⟩ | exact Ow.shl0 (by omega) (by omega) (by omega) | exact ⟨by omega, by omega⟩ | exact ⟨by omega, by omega, by omega⟩ | omega | (simp only [List.length_append, List.length_cons, List.length_nil]; omega) | (subst_vars; omega)), (Ow.Sz.mono (Ow.Sz.abs h32 h_ab_2) (by decide : 2340 ≤ 2350)), h35, (Ow.Sz.mono z_l_divisor (by decide : 5 ≤ 2340)), fun Hn_8 h42 => ?_⟩
            refine ⟨_, rfl, ?_⟩
            refine iteF ?_
            refine ⟨_, rfl, ?_⟩
            refine ⟨_, _, rfl, rfl, (.inr (Ow.mulx (Ow.Sz.lit (n := 3) (i := 7) (by decide)) (Ow.Sz.rng (n := 4) h38 h39 (by decide)) (by decide))), fun m_3 h_m_3 => ?_⟩
            have z_m_3 : Ow.Sz 7 m_3 := by rw [h_m_3]; exact (Ow.Sz.mul (Ow.Sz.lit (n := 3) (i := 7) (by decide)) (Ow.Sz.rng (n := 4) h38 h39 (by decide)))
            refine ⟨_, rfl, ?_⟩
            refine ⟨_, _, rfl, rfl, ?_⟩
            refine ⟨_, rfl, fun l_top h_l_top => ?_⟩
            have z_l_top : Ow.Sz 8 l_top := by rw [h_l_top]; exact (Ow.Sz.add z_m_3 (Ow.Sz.mono z_l_j (by decide : 4 ≤ 7)))
            refine ⟨_, rfl, ?_⟩
            refine ⟨_, _, rfl, rfl, ?_⟩
            refine ⟨_, rfl, ?_⟩
            refine Ow.ifd (fun h43 => ?_) (fun h43 => ?_)
            · refine ⟨_, rfl, ?_⟩
              refine ⟨_, rfl, ?_⟩
              refine Ow.ixs4 (SqL.of (h42 _ _ (h40 _ _ (Ow.at_mut (ne_of_none (h26 _ _ (Ow.at_new h_p_2 (Ow.at_new (Ow.free2 h25 h23) (Ow.at_new h24 (Ow.at_new (Ow.free2 h22 h20) (Ow.at_new h21 (Ow.at_new (Ow.free2 h19 h17) (Ow.at_new h18 (Ow.at_new (Ow.free2 h16 h14) (Ow.at_new h15 (Ow.at_mut (ne_of_none upd_same h_D) (h10 _ _ (Ow.at_mut (ne_of_none upd_same h_D) (h7 _ _ (Ow.at_mut (ne_of_none upd_same h_D) (h4 _ _ (Ow.at_mut (ne_of_none upd_same h_D) (h1 _ _ (Ow.at_new h_D upd_same))))))))))))))))))) h_p_3) (h36 _ _ (ne_of_none (h26 _ _ (Ow.at_new h_p_2 (Ow.at_new (Ow.free2 h25 h23) (Ow.at_new h24 (Ow.at_new (Ow.free2 h22 h20) (Ow.at_new h21 (Ow.at_new (Ow.free2 h19 h17) (Ow.at_new h18 (Ow.at_new (Ow.free2 h16 h14) (Ow.at_new h15 (Ow.at_mut (ne_of_none upd_same h_D) (h10 _ _ (Ow.at_mut (ne_of_none upd_same h_D) (h7 _ _ (Ow.at_mut (ne_of_none upd_same h_D) (h4 _ _ (Ow.at_mut (ne_of_none upd_same h_D) (h1 _ _ (Ow.at_new h_D upd_same))))))))))))))))))) h_p_3) (Ow.at_mut (ne_of_none (h26 _ _ (Ow.at_new h_p_2 (Ow.at_new (Ow.free2 h25 h23) (Ow.at_new h24 (Ow.at_new (Ow.free2 h22 h20) (Ow.at_new h21 (Ow.at_new (Ow.free2 h19 h17) (Ow.at_new h18 (Ow.at_new (Ow.free2 h16 h14) (Ow.at_new h15 (Ow.at_mut (ne_of_none upd_same h_D) (h10 _ _ (Ow.at_mut (ne_of_none upd_same h_D) (h7 _ _ (Ow.at_mut (ne_of_none upd_same h_D) (h4 _ _ (Ow.at_mut (ne_of_none upd_same h_D) (h1 _ _ (Ow.at_new h_D upd_same))))))))))))))))))) h_p_3) (Ow.at_mut (ne_of_none (h26 _ _ (Ow.at_new h_p_2 (Ow.at_new (Ow.free2 h25 h23) (Ow.at_new h24 (Ow.at_new (Ow.free2 h22 h20) (Ow.at_new h21 (Ow.at_new (Ow.free2 h19 h17) (Ow.at_new h18 (Ow.at_new (Ow.free2 h16 h14) (Ow.at_new h15 (Ow.at_mut (ne_of_none upd_same h_D) (h10 _ _ (Ow.at_mut (ne_of_none upd_same h_D) (h7 _ _ (Ow.at_mut (ne_of_none upd_same h_D) (h4 _ _ (Ow.at_mut (ne_of_none upd_same h_D) (h1 _ _ (Ow.at_new h_D upd_same))))))))))))))))))) h_p_3) (Ow.at_mut (ne_of_none (h26 _ _ (Ow.at_new h_p_2 (Ow.at_new (Ow.free2 h25 h23) (Ow.at_new h24 (Ow.at_new (Ow.free2 h22 h20) (Ow.at_new h21 (Ow.at_new (Ow.free2 h19 h17) (Ow.at_new h18 (Ow.at_new (Ow.free2 h16 h14) (Ow.at_new h15 (Ow.at_mut (ne_of_none upd_same h_D) (h10 _ _ (Ow.at_mut (ne_of_none upd_same h_D) (h7 _ _ (Ow.at_mut (ne_of_none upd_same h_D) (h4 _ _ (Ow.at_mut (ne_of_none upd_same h_D) (h1 _ _ (Ow.at_new h_D upd_same))))))))))))))))))) h_p_3) (Ow.at_new h_p_3 (h26 _ _ (Ow.at_new h_p_2 (Ow.at_new (Ow.free2 h25 h23) (Ow.at_new h24 (Ow.at_new (Ow.free2 h22 h20) (Ow.at_new h21 (Ow.at_new (Ow.free2 h19 h17) (Ow.at_new h18 (Ow.at_new (Ow.free2 h16 h14) (Ow.at_new h15 (Ow.at_mut (ne_of_none upd_same h_D) (h10 _ _ (Ow.at_mut (ne_of_none upd_same h_D) (h7 _ _ (Ow.at_mut (ne_of_none upd_same h_D) (h4 _ _ (Ow.at_mut (ne_of_none upd_same h_D) (h1 _ _ (Ow.at_new h_D upd_same)))))))))))))))))))))))))))) (by first | assumption | exact Ow.divw64 (by omega) (by omega) | exact Ow.mul0 ⟨by omega, by omega⟩ | exact Ow.mul1 ⟨by omega, by omega⟩ | exact Ow.shl0 (by omega) (by omega) (by omega) | exact ⟨by omega, by omega⟩ | exact ⟨by omega, by omega, by omega⟩ | omega | (simp only [List.length_append, List.length_cons, List.length_nil]; omega) | (subst_vars; omega)) (fun it_2 h_it_2 => ?_)
              refine ⟨_, rfl, ?_⟩
              refine ⟨_, rfl, ?_⟩
              refine ⟨_, rfl, ?_⟩
              refine ixo_Way T (i := l_at) (SqL.of (h42 _ _ (h40 _ _ (Ow.at_mut (ne_of_none (h26 _ _ upd_same) h_p_3) (h36 _ _ (ne_of_none (h26 _ _ upd_same) h_p_3) (Ow.at_mut (ne_of_none (h26 _ _ upd_same) h_p_3) (Ow.at_mut (ne_of_none (h26 _ _ upd_same) h_p_3) (Ow.at_mut (ne_of_none (h26 _ _ upd_same) h_p_3) (Ow.at_new h_p_3 (h26 _ _ upd_same)))))))))) (h42 _ _ (h40 _ _ (Ow.at_mut (ne_of_none (h26 _ _ (Ow.at_new h_p_2 (Ow.at_new (Ow.free2 h25 h23) (Ow.at_new h24 (Ow.at_new (Ow.free2 h22 h20) (Ow.at_new h21 (Ow.at_new (Ow.free2 h19 h17) (Ow.at_new h18 upd_same)))))))) h_p_3) (h36 _ _ (ne_of_none (h26 _ _ (Ow.at_new h_p_2 (Ow.at_new (Ow.free2 h25 h23) (Ow.at_new h24 (Ow.at_new (Ow.free2 h22 h20) (Ow.at_new h21 (Ow.at_new (Ow.free2 h19 h17) (Ow.at_new h18 upd_same)))))))) h_p_3) (Ow.at_mut (ne_of_none (h26 _ _ (Ow.at_new h_p_2 (Ow.at_new (Ow.free2 h25 h23) (Ow.at_new h24 (Ow.at_new (Ow.free2 h22 h20) (Ow.at_new h21 (Ow.at_new (Ow.free2 h19 h17) (Ow.at_new h18 upd_same)))))))) h_p_3) (Ow.at_mut (ne_of_none (h26 _ _ (Ow.at_new h_p_2 (Ow.at_new (Ow.free2 h25 h23) (Ow.at_new h24 (Ow.at_new (Ow.free2 h22 h20) (Ow.at_new h21 (Ow.at_new (Ow.free2 h19 h17) (Ow.at_new h18 upd_same)))))))) h_p_3) (Ow.at_mut (ne_of_none (h26 _ _ (Ow.at_new h_p_2 (Ow.at_new (Ow.free2 h25 h23) (Ow.at_new h24 (Ow.at_new (Ow.free2 h22 h20) (Ow.at_new h21 (Ow.at_new (Ow.free2 h19 h17) (Ow.at_new h18 upd_same)))))))) h_p_3) (Ow.at_new h_p_3 (h26 _ _ (Ow.at_new h_p_2 (Ow.at_new (Ow.free2 h25 h23) (Ow.at_new h24 (Ow.at_new (Ow.free2 h22 h20) (Ow.at_new h21 (Ow.at_new (Ow.free2 h19 h17) (Ow.at_new h18 upd_same)))))))))))))))) (h42 _ _ (h40 _ _ (Ow.at_mut (ne_of_none (h26 _ _ (Ow.at_new h_p_2 (Ow.at_new (Ow.free2 h25 h23) (Ow.at_new h24 (Ow.at_new (Ow.free2 h22 h20) (Ow.at_new h21 upd_same)))))) h_p_3) (h36 _ _ (ne_of_none (h26 _ _ (Ow.at_new h_p_2 (Ow.at_new (Ow.free2 h25 h23) (Ow.at_new h24 (Ow.at_new (Ow.free2 h22 h20) (Ow.at_new h21 upd_same)))))) h_p_3) (Ow.at_mut (ne_of_none (h26 _ _ (Ow.at_new h_p_2 (Ow.at_new (Ow.free2 h25 h23) (Ow.at_new h24 (Ow.at_new (Ow.free2 h22 h20) (Ow.at_new h21 upd_same)))))) h_p_3) (Ow.at_mut (ne_of_none (h26 _ _ (Ow.at_new h_p_2 (Ow.at_new (Ow.free2 h25 h23) (Ow.at_new h24 (Ow.at_new (Ow.free2 h22 h20) (Ow.at_new h21 upd_same)))))) h_p_3) (Ow.at_mut (ne_of_none (h26 _ _ (Ow.at_new h_p_2 (Ow.at_new (Ow.free2 h25 h23) (Ow.at_new h24 (Ow.at_new (Ow.free2 h22 h20) (Ow.at_new h21 upd_same)))))) h_p_3) (Ow.at_new h_p_3 (h26 _ _ (Ow.at_new h_p_2 (Ow.at_new (Ow.free2 h25 h23) (Ow.at_new h24 (Ow.at_new (Ow.free2 h22 h20) (Ow.at_new h21 upd_same)))))))))))))) (h42 _ _ (h40 _ _ (Ow.at_mut (ne_of_none (h26 _ _ (Ow.at_new h_p_2 (Ow.at_new (Ow.free2 h25 h23) (Ow.at_new h24 upd_same)))) h_p_3) (h36 _ _ (ne_of_none (h26 _ _ (Ow.at_new h_p_2 (Ow.at_new (Ow.free2 h25 h23) (Ow.at_new h24 upd_same)))) h_p_3) (Ow.at_mut (ne_of_none (h26 _ _ (Ow.at_new h_p_2 (Ow.at_new (Ow.free2 h25 h23) (Ow.at_new h24 upd_same)))) h_p_3) (Ow.at_mut (ne_of_none (h26 _ _ (Ow.at_new h_p_2 (Ow.at_new (Ow.free2 h25 h23) (Ow.at_new h24 upd_same)))) h_p_3) (Ow.at_mut (ne_of_none (h26 _ _ (Ow.at_new h_p_2 (Ow.at_new (Ow.free2 h25 h23) (Ow.at_new h24 upd_same)))) h_p_3) (Ow.at_new h_p_3 (h26 _ _ (Ow.at_new h_p_2 (Ow.at_new (Ow.free2 h25 h23) (Ow.at_new h24 upd_same)))))))))))) (h42 _ _ (h40 _ _ (Ow.at_mut (ne_of_none (h26 _ _ (Ow.at_new h_p_2 upd_same)) h_p_3) (h36 _ _ (ne_of_none (h26 _ _ (Ow.at_new h_p_2 upd_same)) h_p_3) (Ow.at_mut (ne_of_none (h26 _ _ (Ow.at_new h_p_2 upd_same)) h_p_3) (Ow.at_mut (ne_of_none (h26 _ _ (Ow.at_new h_p_2 upd_same)) h_p_3) (Ow.at_mut (ne_of_none (h26 _ _ (Ow.at_new h_p_2 upd_same)) h_p_3) (Ow.at_new h_p_3 (h26 _ _ (Ow.at_new h_p_2 upd_same)))))))))) (by first | assumption | exact Ow.divw64 (by omega) (by omega) | exact Ow.mul0 ⟨by omega, by omega⟩ | exact Ow.mul1 ⟨by omega, by omega⟩ | exact Ow.shl0 (by omega) (by omega) (by omega) | exact ⟨by omega, by omega⟩ | exact ⟨by omega, by omega, by omega⟩ | omega | (simp only [List.length_append, List.length_cons, List.length_nil]; omega) | (subst_vars; omega)) (fun wy_2 o_10 dx_10 h_wy_2 h_o_10 => ?_)
              have hw_wy_2 : it_2 = Ow.wrd_Way wy_2 := by rcases h_it_2 with ⟨hz, rfl⟩ | ⟨hz, rfl⟩ | ⟨hz, rfl⟩ | ⟨hz, rfl⟩ <;> cases wy_2 <;> first | rfl | (exfalso; simp only [ix_Way] at h_wy_2; omega)
              refine ⟨_, _, _, Ow.cls_Way T wy_2, sp_Way_rounded T, rfl, (by cases wy_2 <;> first | exact .inl ⟨rfl, rfl⟩ | exact .inr (.inl ⟨rfl, rfl⟩) | exact .inr (.inr (.inl ⟨rfl, rfl⟩)) | exact .inr (.inr (.inr (⟨rfl, rfl⟩)))), h_o_10, rfl, ?_⟩
              refine ⟨_, rfl, ?_⟩
              refine ⟨_, _, _, wy_2, _, rfl, h_o_10, (Ow.Sz.mono z_l_top (by decide : 8 ≤ 4000)), (by first | assumption | exact Ow.divw64 (by omega) (by omega) | exact Ow.mul0 ⟨by omega, by omega⟩ | exact Ow.mul1 ⟨by omega, by omega⟩ | exact Ow.shl0 (by omega) (by omega) (by omega) | exact ⟨by omega, by omega⟩ | exact ⟨by omega, by omega, by omega⟩ | omega | (simp only [List.length_append, List.length_cons, List.length_nil]; omega) | (subst_vars; omega)), (Ow.Sz.mono (Ow.Sz.lit (n := 3) (i := 4) (by decide)) (by decide : 3 ≤ 4000)), fun t_6 h44 h45 Hn_9 h46 => ?_⟩
              refine ⟨_, _, _, _, _, rfl, (by first | assumption | exact Ow.divw64 (by omega) (by omega) | exact Ow.mul0 ⟨by omega, by omega⟩ | exact Ow.mul1 ⟨by omega, by omega⟩ | exact Ow.shl0 (by omega) (by omega) (by omega) | exact ⟨by omega, by omega⟩ | exact ⟨by omega, by omega, by omega⟩ | omega | (simp only [List.length_append, List.length_cons, List.length_nil]; omega) | (subst_vars; omega) | (subst_vars; exact Ow.lies (by omega))), (by first | assumption | exact Ow.divw64 (by omega) (by omega) | exact Ow.mul0 ⟨by omega, by omega⟩ | exact Ow.mul1 ⟨by omega, by omega⟩ | exact Ow.shl0 (by omega) (by omega) (by omega) | exact ⟨by omega, by omega⟩ | exact ⟨by omega, by omega, by omega⟩ | omega | (simp only [List.length_append, List.length_cons, List.length_nil]; omega) | (subst_vars; omega) | (subst_vars; exact Ow.lies (by omega))), (by first | assumption | exact Ow.divw64 (by omega) (by omega) | exact Ow.mul0 ⟨by omega, by omega⟩ | exact Ow.mul1 ⟨by omega, by omega⟩ | exact Ow.shl0 (by omega) (by omega) (by omega) | exact ⟨by omega, by omega⟩ | exact ⟨by omega, by omega, by omega⟩ | omega | (simp only [List.length_append, List.length_cons, List.length_nil]; omega) | (subst_vars; omega) | (subst_vars; exact Ow.lies (by omega))), (Ow.Sz.mono z_l_top (by decide : 8 ≤ 6000)), (Ow.Sz.mono (Ow.Sz.lit (n := 3) (i := 4) (by decide)) (by decide : 3 ≤ 6000)), (Ow.Sz.mono h45 (by decide : 4002 ≤ 6000)), ?_⟩
              refine ⟨_, rfl, ?_⟩
              refine iteF ?_
              exact ⟨_, _, _, _, rfl, ((h40.trans h42).trans h46)⟩
            · refine iteF ?_
              exact ⟨_, _, _, _, rfl, (h40.trans h42)⟩
          · rintro _ Hn_10 ⟨_, _, _, _, rfl, h47⟩
            refine ⟨_, rfl, ?_⟩
            refine ⟨_, _, rfl, rfl, (by first | assumption | exact Ow.divw64 (by omega) (by omega) | exact Ow.mul0 ⟨by omega, by omega⟩ | exact Ow.mul1 ⟨by omega, by omega⟩ | exact Ow.shl0 (by omega) (by omega) (by omega) | exact ⟨by omega, by omega⟩ | exact ⟨by omega, by omega, by omega⟩ | omega | (simp only [List.length_append, List.length_cons, List.length_nil]; omega) | (subst_vars; omega)), fun l_at_2 h_l_at_2 h0_l_at_2 h1_l_at_2 => ?_⟩
            refine ⟨_, rfl, ?_⟩
            refine ⟨_, rfl, ?_⟩
            refine Ow.ixs4 (SqL.of (h47 _ _ (Ow.at_mut (ne_of_none (h26 _ _ (Ow.at_new h_p_2 (Ow.at_new (Ow.free2 h25 h23) (Ow.at_new h24 (Ow.at_new (Ow.free2 h22 h20) (Ow.at_new h21 (Ow.at_new (Ow.free2 h19 h17) (Ow.at_new h18 (Ow.at_new (Ow.free2 h16 h14) (Ow.at_new h15 (Ow.at_mut (ne_of_none upd_same h_D) (h10 _ _ (Ow.at_mut (ne_of_none upd_same h_D) (h7 _ _ (Ow.at_mut (ne_of_none upd_same h_D) (h4 _ _ (Ow.at_mut (ne_of_none upd_same h_D) (h1 _ _ (Ow.at_new h_D upd_same))))))))))))))))))) h_p_3) (h36 _ _ (ne_of_none (h26 _ _ (Ow.at_new h_p_2 (Ow.at_new (Ow.free2 h25 h23) (Ow.at_new h24 (Ow.at_new (Ow.free2 h22 h20) (Ow.at_new h21 (Ow.at_new (Ow.free2 h19 h17) (Ow.at_new h18 (Ow.at_new (Ow.free2 h16 h14) (Ow.at_new h15 (Ow.at_mut (ne_of_none upd_same h_D) (h10 _ _ (Ow.at_mut (ne_of_none upd_same h_D) (h7 _ _ (Ow.at_mut (ne_of_none upd_same h_D) (h4 _ _ (Ow.at_mut (ne_of_none upd_same h_D) (h1 _ _ (Ow.at_new h_D upd_same))))))))))))))))))) h_p_3) (Ow.at_mut (ne_of_none (h26 _ _ (Ow.at_new h_p_2 (Ow.at_new (Ow.free2 h25 h23) (Ow.at_new h24 (Ow.at_new (Ow.free2 h22 h20) (Ow.at_new h21 (Ow.at_new (Ow.free2 h19 h17) (Ow.at_new h18 (Ow.at_new (Ow.free2 h16 h14) (Ow.at_new h15 (Ow.at_mut (ne_of_none upd_same h_D) (h10 _ _ (Ow.at_mut (ne_of_none upd_same h_D) (h7 _ _ (Ow.at_mut (ne_of_none upd_same h_D) (h4 _ _ (Ow.at_mut (ne_of_none upd_same h_D) (h1 _ _ (Ow.at_new h_D upd_same))))))))))))))))))) h_p_3) (Ow.at_mut (ne_of_none (h26 _ _ (Ow.at_new h_p_2 (Ow.at_new (Ow.free2 h25 h23) (Ow.at_new h24 (Ow.at_new (Ow.free2 h22 h20) (Ow.at_new h21 (Ow.at_new (Ow.free2 h19 h17) (Ow.at_new h18 (Ow.at_new (Ow.free2 h16 h14) (Ow.at_new h15 (Ow.at_mut (ne_of_none upd_same h_D) (h10 _ _ (Ow.at_mut (ne_of_none upd_same h_D) (h7 _ _ (Ow.at_mut (ne_of_none upd_same h_D) (h4 _ _ (Ow.at_mut (ne_of_none upd_same h_D) (h1 _ _ (Ow.at_new h_D upd_same))))))))))))))))))) h_p_3) (Ow.at_mut (ne_of_none (h26 _ _ (Ow.at_new h_p_2 (Ow.at_new (Ow.free2 h25 h23) (Ow.at_new h24 (Ow.at_new (Ow.free2 h22 h20) (Ow.at_new h21 (Ow.at_new (Ow.free2 h19 h17) (Ow.at_new h18 (Ow.at_new (Ow.free2 h16 h14) (Ow.at_new h15 (Ow.at_mut (ne_of_none upd_same h_D) (h10 _ _ (Ow.at_mut (ne_of_none upd_same h_D) (h7 _ _ (Ow.at_mut (ne_of_none upd_same h_D) (h4 _ _ (Ow.at_mut (ne_of_none upd_same h_D) (h1 _ _ (Ow.at_new h_D upd_same))))))))))))))))))) h_p_3) (Ow.at_new h_p_3 (h26 _ _ (Ow.at_new h_p_2 (Ow.at_new (Ow.free2 h25 h23) (Ow.at_new h24 (Ow.at_new (Ow.free2 h22 h20) (Ow.at_new h21 (Ow.at_new (Ow.free2 h19 h17) (Ow.at_new h18 (Ow.at_new (Ow.free2 h16 h14) (Ow.at_new h15 (Ow.at_mut (ne_of_none upd_same h_D) (h10 _ _ (Ow.at_mut (ne_of_none upd_same h_D) (h7 _ _ (Ow.at_mut (ne_of_none upd_same h_D) (h4 _ _ (Ow.at_mut (ne_of_none upd_same h_D) (h1 _ _ (Ow.at_new h_D upd_same))))))))))))))))))))))))))) (by first | assumption | exact Ow.divw64 (by omega) (by omega) | exact Ow.mul0 ⟨by omega, by omega⟩ | exact Ow.mul1 ⟨by omega, by omega⟩ | exact Ow.shl0 (by omega) (by omega) (by omega) | exact ⟨by omega, by omega⟩ | exact ⟨by omega, by omega, by omega⟩ | omega | (simp only [List.length_append, List.length_cons, List.length_nil]; omega) | (subst_vars; omega)) (fun it_3 h_it_3 => ?_)
            refine ⟨_, rfl, ?_⟩
            refine ⟨_, rfl, ?_⟩
            refine ixo_Way T (i := l_at_2) (SqL.of (h47 _ _ (Ow.at_mut (ne_of_none (h26 _ _ upd_same) h_p_3) (h36 _ _ (ne_of_none (h26 _ _ upd_same) h_p_3) (Ow.at_mut (ne_of_none (h26 _ _ upd_same) h_p_3) (Ow.at_mut (ne_of_none (h26 _ _ upd_same) h_p_3) (Ow.at_mut (ne_of_none (h26 _ _ upd_same) h_p_3) (Ow.at_new h_p_3 (h26 _ _ upd_same))))))))) (h47 _ _ (Ow.at_mut (ne_of_none (h26 _ _ (Ow.at_new h_p_2 (Ow.at_new (Ow.free2 h25 h23) (Ow.at_new h24 (Ow.at_new (Ow.free2 h22 h20) (Ow.at_new h21 (Ow.at_new (Ow.free2 h19 h17) (Ow.at_new h18 upd_same)))))))) h_p_3) (h36 _ _ (ne_of_none (h26 _ _ (Ow.at_new h_p_2 (Ow.at_new (Ow.free2 h25 h23) (Ow.at_new h24 (Ow.at_new (Ow.free2 h22 h20) (Ow.at_new h21 (Ow.at_new (Ow.free2 h19 h17) (Ow.at_new h18 upd_same)))))))) h_p_3) (Ow.at_mut (ne_of_none (h26 _ _ (Ow.at_new h_p_2 (Ow.at_new (Ow.free2 h25 h23) (Ow.at_new h24 (Ow.at_new (Ow.free2 h22 h20) (Ow.at_new h21 (Ow.at_new (Ow.free2 h19 h17) (Ow.at_new h18 upd_same)))))))) h_p_3) (Ow.at_mut (ne_of_none (h26 _ _ (Ow.at_new h_p_2 (Ow.at_new (Ow.free2 h25 h23) (Ow.at_new h24 (Ow.at_new (Ow.free2 h22 h20) (Ow.at_new h21 (Ow.at_new (Ow.free2 h19 h17) (Ow.at_new h18 upd_same)))))))) h_p_3) (Ow.at_mut (ne_of_none (h26 _ _ (Ow.at_new h_p_2 (Ow.at_new (Ow.free2 h25 h23) (Ow.at_new h24 (Ow.at_new (Ow.free2 h22 h20) (Ow.at_new h21 (Ow.at_new (Ow.free2 h19 h17) (Ow.at_new h18 upd_same)))))))) h_p_3) (Ow.at_new h_p_3 (h26 _ _ (Ow.at_new h_p_2 (Ow.at_new (Ow.free2 h25 h23) (Ow.at_new h24 (Ow.at_new (Ow.free2 h22 h20) (Ow.at_new h21 (Ow.at_new (Ow.free2 h19 h17) (Ow.at_new h18 upd_same))))))))))))))) (h47 _ _ (Ow.at_mut (ne_of_none (h26 _ _ (Ow.at_new h_p_2 (Ow.at_new (Ow.free2 h25 h23) (Ow.at_new h24 (Ow.at_new (Ow.free2 h22 h20) (Ow.at_new h21 upd_same)))))) h_p_3) (h36 _ _ (ne_of_none (h26 _ _ (Ow.at_new h_p_2 (Ow.at_new (Ow.free2 h25 h23) (Ow.at_new h24 (Ow.at_new (Ow.free2 h22 h20) (Ow.at_new h21 upd_same)))))) h_p_3) (Ow.at_mut (ne_of_none (h26 _ _ (Ow.at_new h_p_2 (Ow.at_new (Ow.free2 h25 h23) (Ow.at_new h24 (Ow.at_new (Ow.free2 h22 h20) (Ow.at_new h21 upd_same)))))) h_p_3) (Ow.at_mut (ne_of_none (h26 _ _ (Ow.at_new h_p_2 (Ow.at_new (Ow.free2 h25 h23) (Ow.at_new h24 (Ow.at_new (Ow.free2 h22 h20) (Ow.at_new h21 upd_same)))))) h_p_3) (Ow.at_mut (ne_of_none (h26 _ _ (Ow.at_new h_p_2 (Ow.at_new (Ow.free2 h25 h23) (Ow.at_new h24 (Ow.at_new (Ow.free2 h22 h20) (Ow.at_new h21 upd_same)))))) h_p_3) (Ow.at_new h_p_3 (h26 _ _ (Ow.at_new h_p_2 (Ow.at_new (Ow.free2 h25 h23) (Ow.at_new h24 (Ow.at_new (Ow.free2 h22 h20) (Ow.at_new h21 upd_same))))))))))))) (h47 _ _ (Ow.at_mut (ne_of_none (h26 _ _ (Ow.at_new h_p_2 (Ow.at_new (Ow.free2 h25 h23) (Ow.at_new h24 upd_same)))) h_p_3) (h36 _ _ (ne_of_none (h26 _ _ (Ow.at_new h_p_2 (Ow.at_new (Ow.free2 h25 h23) (Ow.at_new h24 upd_same)))) h_p_3) (Ow.at_mut (ne_of_none (h26 _ _ (Ow.at_new h_p_2 (Ow.at_new (Ow.free2 h25 h23) (Ow.at_new h24 upd_same)))) h_p_3) (Ow.at_mut (ne_of_none (h26 _ _ (Ow.at_new h_p_2 (Ow.at_new (Ow.free2 h25 h23) (Ow.at_new h24 upd_same)))) h_p_3) (Ow.at_mut (ne_of_none (h26 _ _ (Ow.at_new h_p_2 (Ow.at_new (Ow.free2 h25 h23) (Ow.at_new h24 upd_same)))) h_p_3) (Ow.at_new h_p_3 (h26 _ _ (Ow.at_new h_p_2 (Ow.at_new (Ow.free2 h25 h23) (Ow.at_new h24 upd_same))))))))))) (h47 _ _ (Ow.at_mut (ne_of_none (h26 _ _ (Ow.at_new h_p_2 upd_same)) h_p_3) (h36 _ _ (ne_of_none (h26 _ _ (Ow.at_new h_p_2 upd_same)) h_p_3) (Ow.at_mut (ne_of_none (h26 _ _ (Ow.at_new h_p_2 upd_same)) h_p_3) (Ow.at_mut (ne_of_none (h26 _ _ (Ow.at_new h_p_2 upd_same)) h_p_3) (Ow.at_mut (ne_of_none (h26 _ _ (Ow.at_new h_p_2 upd_same)) h_p_3) (Ow.at_new h_p_3 (h26 _ _ (Ow.at_new h_p_2 upd_same))))))))) (by first | assumption | exact Ow.divw64 (by omega) (by omega) | exact Ow.mul0 ⟨by omega, by omega⟩ | exact Ow.mul1 ⟨by omega, by omega⟩ | exact Ow.shl0 (by omega) (by omega) (by omega) | exact ⟨by omega, by omega⟩ | exact ⟨by omega, by omega, by omega⟩ | omega | (simp only [List.length_append, List.length_cons, List.length_nil]; omega) | (subst_vars; omega)) (fun wy_3 o_11 dx_11 h_wy_3 h_o_11 => ?_)
            have hw_wy_3 : it_3 = Ow.wrd_Way wy_3 := by rcases h_it_3 with ⟨hz, rfl⟩ | ⟨hz, rfl⟩ | ⟨hz, rfl⟩ | ⟨hz, rfl⟩ <;> cases wy_3 <;> first | rfl | (exfalso; simp only [ix_Way] at h_wy_3; omega)
            refine ⟨_, rfl, ?_⟩
            refine ⟨_, _, rfl, rfl, ?_⟩
            refine ⟨_, rfl, ?_⟩
            refine ⟨_, rfl, ?_⟩
            refine ⟨_, rfl, ?_⟩
            refine ⟨_, _, rfl, rfl, ?_⟩
            refine ⟨_, _, _, _, _, _, wy_3, _, rfl, (by first | assumption | exact Ow.divw64 (by omega) (by omega) | exact Ow.mul0 ⟨by omega, by omega⟩ | exact Ow.mul1 ⟨by omega, by omega⟩ | exact Ow.shl0 (by omega) (by omega) (by omega) | exact ⟨by omega, by omega⟩ | exact ⟨by omega, by omega, by omega⟩ | omega | (simp only [List.length_append, List.length_cons, List.length_nil]; omega) | (subst_vars; omega)), h_o_11, (by first | assumption | exact Ow.divw64 (by omega) (by omega) | exact Ow.mul0 ⟨by omega, by omega⟩ | exact Ow.mul1 ⟨by omega, by omega⟩ | exact Ow.shl0 (by omega) (by omega) (by omega) | exact ⟨by omega, by omega⟩ | exact ⟨by omega, by omega, by omega⟩ | omega | (simp only [List.length_append, List.length_cons, List.length_nil]; omega) | (subst_vars; omega)), (by first | assumption | exact Ow.divw64 (by omega) (by omega) | exact Ow.mul0 ⟨by omega, by omega⟩ | exact Ow.mul1 ⟨by omega, by omega⟩ | exact Ow.shl0 (by omega) (by omega) (by omega) | exact ⟨by omega, by omega⟩ | exact ⟨by omega, by omega, by omega⟩ | omega | (simp only [List.length_append, List.length_cons, List.length_nil]; omega) | (subst_vars; omega)), (by first | assumption | exact Ow.divw64 (by omega) (by omega) | exact Ow.mul0 ⟨by omega, by omega⟩ | exact Ow.mul1 ⟨by omega, by omega⟩ | exact Ow.shl0 (by omega) (by omega) (by omega) | exact ⟨by omega, by omega⟩ | exact ⟨by omega, by omega, by omega⟩ | omega | (simp only [List.length_append, List.length_cons, List.length_nil]; omega) | (subst_vars; omega)), (Ow.Sz.mono (Ow.Sz.add (Ow.Sz.abs h32 h_ab_2) (Ow.Sz.mono (Ow.Sz.lit (n := 1) (i := 1) (by decide)) (by decide : 1 ≤ 2340))) (by decide : 2341 ≤ 2350)), h35, (Ow.Sz.mono z_l_divisor (by decide : 5 ≤ 2340)), fun Hn_11 h48 => ?_⟩
            refine ⟨_, rfl, ?_⟩
            refine iteF ?_
            exact ⟨_, _, _, _, _, _, _, _, _, _, rfl, (((Ow.same_mut (Ow.same_frame (Ow.same_mut (Ow.same_mut (Ow.same_mut (h26.trans (Ow.same_new h_p_3)) (Same.free h26 h_p_3)) (Same.free h26 h_p_3)) (Same.free h26 h_p_3)) h36 (Same.free h26 h_p_3)) (Same.free h26 h_p_3)).trans h47).trans h48)⟩
        · refine ⟨_, rfl, ?_⟩
          refine ⟨_, _, _, _, rfl, upd_same, fun t_7 a2_6 n2_6 h49 => ?_⟩
          refine ⟨_, rfl, ?_⟩
          refine ⟨_, rfl, fun ab_3 h_ab_3 => ?_⟩
          have hm_ab_3 := Ow.abs_ite h_ab_3
          refine ⟨_, rfl, ?_⟩
          refine ⟨_, rfl, ?_⟩
          refine ⟨_, _, _, _, _, rfl, upd_same, (by first | assumption | exact Ow.divw64 (by omega) (by omega) | exact Ow.mul0 ⟨by omega, by omega⟩ | exact Ow.mul1 ⟨by omega, by omega⟩ | exact Ow.shl0 (by omega) (by omega) (by omega) | exact ⟨by omega, by omega⟩ | exact ⟨by omega, by omega, by omega⟩ | omega | (simp only [List.length_append, List.length_cons, List.length_nil]; omega) | (subst_vars; omega)), (Ow.Sz.abs h28 h_ab), fun l_rest_here_2 a2_7 n2_7 h50 h51 h52 Hn_12 h53 h54 => ?_⟩
          refine ⟨_, rfl, ?_⟩
          refine ⟨_, _, _, _, _, rfl, h54, (by first | assumption | exact Ow.divw64 (by omega) (by omega) | exact Ow.mul0 ⟨by omega, by omega⟩ | exact Ow.mul1 ⟨by omega, by omega⟩ | exact Ow.shl0 (by omega) (by omega) (by omega) | exact ⟨by omega, by omega⟩ | exact ⟨by omega, by omega, by omega⟩ | omega | (simp only [List.length_append, List.length_cons, List.length_nil]; omega) | (subst_vars; omega)), (by first | assumption | exact Ow.divw64 (by omega) (by omega) | exact Ow.mul0 ⟨by omega, by omega⟩ | exact Ow.mul1 ⟨by omega, by omega⟩ | exact Ow.shl0 (by omega) (by omega) (by omega) | exact ⟨by omega, by omega⟩ | exact ⟨by omega, by omega, by omega⟩ | omega | (simp only [List.length_append, List.length_cons, List.length_nil]; omega) | (subst_vars; omega)), fun l_turn_2 a2_8 n2_8 h55 h56 => ?_⟩
          refine ⟨_, rfl, (by first | assumption | exact Ow.divw64 (by omega) (by omega) | exact Ow.mul0 ⟨by omega, by omega⟩ | exact Ow.mul1 ⟨by omega, by omega⟩ | exact Ow.shl0 (by omega) (by omega) (by omega) | exact ⟨by omega, by omega⟩ | exact ⟨by omega, by omega, by omega⟩ | omega | (simp only [List.length_append, List.length_cons, List.length_nil]; omega) | (subst_vars; omega)), (by first | assumption | exact Ow.divw64 (by omega) (by omega) | exact Ow.mul0 ⟨by omega, by omega⟩ | exact Ow.mul1 ⟨by omega, by omega⟩ | exact Ow.shl0 (by omega) (by omega) (by omega) | exact ⟨by omega, by omega⟩ | exact ⟨by omega, by omega, by omega⟩ | omega | (simp only [List.length_append, List.length_cons, List.length_nil]; omega) | (subst_vars; omega)), ?_⟩
          refine for_range (lo := 0) (fun i σ2 H2 => ∃ (v_9 : Option V) (v_10 : Option V) (v_11 : Option V) (v_12 : Option V), σ2 = [some (.ref script), some (.ref p), some (.ref p_2), some (.int (l_k)), some (.ref p_3), some (.int (ab)), some (.int (ab_3)), some (.int (l_rest_here_2)), some (.int (l_turn_2)), v_9, v_10, v_11, v_12] ∧ Same _ H2) ⟨_, _, _, _, rfl, Same.refl _⟩ ?_ ?_
          · rintro i_4 _ Hn_13 h58 ⟨_, _, _, _, rfl, h57⟩
            refine Ow.gturn (fun l_j_2 h_l_j_2 => ?_)
            have z_l_j_2 : Ow.Sz 4 l_j_2 := by unfold Ow.Sz; omega
            refine ⟨_, rfl, ?_⟩
            refine ⟨_, rfl, ?_⟩
            refine ⟨_, _, rfl, rfl, ?_⟩
            refine ⟨_, _, rfl, rfl, (by first | assumption | exact Ow.divw64 (by omega) (by omega) | exact Ow.mul0 ⟨by omega, by omega⟩ | exact Ow.mul1 ⟨by omega, by omega⟩ | exact Ow.shl0 (by omega) (by omega) (by omega) | exact ⟨by omega, by omega⟩ | exact ⟨by omega, by omega, by omega⟩ | omega | (simp only [List.length_append, List.length_cons, List.length_nil]; omega) | (subst_vars; omega)), fun l_at_3 h_l_at_3 h0_l_at_3 h1_l_at_3 => ?_⟩
            refine ⟨_, rfl, ?_⟩
            refine ⟨_, rfl, ?_⟩
            refine Ow.ixs4 (SqL.of (h57 _ _ (Ow.at_mut (ne_of_none (h26 _ _ (Ow.at_new h_p_2 (Ow.at_new (Ow.free2 h25 h23) (Ow.at_new h24 (Ow.at_new (Ow.free2 h22 h20) (Ow.at_new h21 (Ow.at_new (Ow.free2 h19 h17) (Ow.at_new h18 (Ow.at_new (Ow.free2 h16 h14) (Ow.at_new h15 (Ow.at_mut (ne_of_none upd_same h_D) (h10 _ _ (Ow.at_mut (ne_of_none upd_same h_D) (h7 _ _ (Ow.at_mut (ne_of_none upd_same h_D) (h4 _ _ (Ow.at_mut (ne_of_none upd_same h_D) (h1 _ _ (Ow.at_new h_D upd_same))))))))))))))))))) h_p_3) (h53 _ _ (ne_of_none (h26 _ _ (Ow.at_new h_p_2 (Ow.at_new (Ow.free2 h25 h23) (Ow.at_new h24 (Ow.at_new (Ow.free2 h22 h20) (Ow.at_new h21 (Ow.at_new (Ow.free2 h19 h17) (Ow.at_new h18 (Ow.at_new (Ow.free2 h16 h14) (Ow.at_new h15 (Ow.at_mut (ne_of_none upd_same h_D) (h10 _ _ (Ow.at_mut (ne_of_none upd_same h_D) (h7 _ _ (Ow.at_mut (ne_of_none upd_same h_D) (h4 _ _ (Ow.at_mut (ne_of_none upd_same h_D) (h1 _ _ (Ow.at_new h_D upd_same))))))))))))))))))) h_p_3) (Ow.at_mut (ne_of_none (h26 _ _ (Ow.at_new h_p_2 (Ow.at_new (Ow.free2 h25 h23) (Ow.at_new h24 (Ow.at_new (Ow.free2 h22 h20) (Ow.at_new h21 (Ow.at_new (Ow.free2 h19 h17) (Ow.at_new h18 (Ow.at_new (Ow.free2 h16 h14) (Ow.at_new h15 (Ow.at_mut (ne_of_none upd_same h_D) (h10 _ _ (Ow.at_mut (ne_of_none upd_same h_D) (h7 _ _ (Ow.at_mut (ne_of_none upd_same h_D) (h4 _ _ (Ow.at_mut (ne_of_none upd_same h_D) (h1 _ _ (Ow.at_new h_D upd_same))))))))))))))))))) h_p_3) (Ow.at_mut (ne_of_none (h26 _ _ (Ow.at_new h_p_2 (Ow.at_new (Ow.free2 h25 h23) (Ow.at_new h24 (Ow.at_new (Ow.free2 h22 h20) (Ow.at_new h21 (Ow.at_new (Ow.free2 h19 h17) (Ow.at_new h18 (Ow.at_new (Ow.free2 h16 h14) (Ow.at_new h15 (Ow.at_mut (ne_of_none upd_same h_D) (h10 _ _ (Ow.at_mut (ne_of_none upd_same h_D) (h7 _ _ (Ow.at_mut (ne_of_none upd_same h_D) (h4 _ _ (Ow.at_mut (ne_of_none upd_same h_D) (h1 _ _ (Ow.at_new h_D upd_same))))))))))))))))))) h_p_3) (Ow.at_new h_p_3 (h26 _ _ (Ow.at_new h_p_2 (Ow.at_new (Ow.free2 h25 h23) (Ow.at_new h24 (Ow.at_new (Ow.free2 h22 h20) (Ow.at_new h21 (Ow.at_new (Ow.free2 h19 h17) (Ow.at_new h18 (Ow.at_new (Ow.free2 h16 h14) (Ow.at_new h15 (Ow.at_mut (ne_of_none upd_same h_D) (h10 _ _ (Ow.at_mut (ne_of_none upd_same h_D) (h7 _ _ (Ow.at_mut (ne_of_none upd_same h_D) (h4 _ _ (Ow.at_mut (ne_of_none upd_same h_D) (h1 _ _ (Ow.at_new h_D upd_same)))))))))))))))))))))))))) (by first | assumption | exact Ow.divw64 (by omega) (by omega) | exact Ow.mul0 ⟨by omega, by omega⟩ | exact Ow.mul1 ⟨by omega, by omega⟩ | exact Ow.shl0 (by omega) (by omega) (by omega) | exact ⟨by omega, by omega⟩ | exact ⟨by omega, by omega, by omega⟩ | omega | (simp only [List.length_append, List.length_cons, List.length_nil]; omega) | (subst_vars; omega)) (fun it_4 h_it_4 => ?_)
            refine ⟨_, rfl, ?_⟩
            refine ⟨_, rfl, ?_⟩
            refine ixo_Way T (i := l_at_3) (SqL.of (h57 _ _ (Ow.at_mut (ne_of_none (h26 _ _ upd_same) h_p_3) (h53 _ _ (ne_of_none (h26 _ _ upd_same) h_p_3) (Ow.at_mut (ne_of_none (h26 _ _ upd_same) h_p_3) (Ow.at_mut (ne_of_none (h26 _ _ upd_same) h_p_3) (Ow.at_new h_p_3 (h26 _ _ upd_same)))))))) (h57 _ _ (Ow.at_mut (ne_of_none (h26 _ _ (Ow.at_new h_p_2 (Ow.at_new (Ow.free2 h25 h23) (Ow.at_new h24 (Ow.at_new (Ow.free2 h22 h20) (Ow.at_new h21 (Ow.at_new (Ow.free2 h19 h17) (Ow.at_new h18 upd_same)))))))) h_p_3) (h53 _ _ (ne_of_none (h26 _ _ (Ow.at_new h_p_2 (Ow.at_new (Ow.free2 h25 h23) (Ow.at_new h24 (Ow.at_new (Ow.free2 h22 h20) (Ow.at_new h21 (Ow.at_new (Ow.free2 h19 h17) (Ow.at_new h18 upd_same)))))))) h_p_3) (Ow.at_mut (ne_of_none (h26 _ _ (Ow.at_new h_p_2 (Ow.at_new (Ow.free2 h25 h23) (Ow.at_new h24 (Ow.at_new (Ow.free2 h22 h20) (Ow.at_new h21 (Ow.at_new (Ow.free2 h19 h17) (Ow.at_new h18 upd_same)))))))) h_p_3) (Ow.at_mut (ne_of_none (h26 _ _ (Ow.at_new h_p_2 (Ow.at_new (Ow.free2 h25 h23) (Ow.at_new h24 (Ow.at_new (Ow.free2 h22 h20) (Ow.at_new h21 (Ow.at_new (Ow.free2 h19 h17) (Ow.at_new h18 upd_same)))))))) h_p_3) (Ow.at_new h_p_3 (h26 _ _ (Ow.at_new h_p_2 (Ow.at_new (Ow.free2 h25 h23) (Ow.at_new h24 (Ow.at_new (Ow.free2 h22 h20) (Ow.at_new h21 (Ow.at_new (Ow.free2 h19 h17) (Ow.at_new h18 upd_same)))))))))))))) (h57 _ _ (Ow.at_mut (ne_of_none (h26 _ _ (Ow.at_new h_p_2 (Ow.at_new (Ow.free2 h25 h23) (Ow.at_new h24 (Ow.at_new (Ow.free2 h22 h20) (Ow.at_new h21 upd_same)))))) h_p_3) (h53 _ _ (ne_of_none (h26 _ _ (Ow.at_new h_p_2 (Ow.at_new (Ow.free2 h25 h23) (Ow.at_new h24 (Ow.at_new (Ow.free2 h22 h20) (Ow.at_new h21 upd_same)))))) h_p_3) (Ow.at_mut (ne_of_none (h26 _ _ (Ow.at_new h_p_2 (Ow.at_new (Ow.free2 h25 h23) (Ow.at_new h24 (Ow.at_new (Ow.free2 h22 h20) (Ow.at_new h21 upd_same)))))) h_p_3) (Ow.at_mut (ne_of_none (h26 _ _ (Ow.at_new h_p_2 (Ow.at_new (Ow.free2 h25 h23) (Ow.at_new h24 (Ow.at_new (Ow.free2 h22 h20) (Ow.at_new h21 upd_same)))))) h_p_3) (Ow.at_new h_p_3 (h26 _ _ (Ow.at_new h_p_2 (Ow.at_new (Ow.free2 h25 h23) (Ow.at_new h24 (Ow.at_new (Ow.free2 h22 h20) (Ow.at_new h21 upd_same)))))))))))) (h57 _ _ (Ow.at_mut (ne_of_none (h26 _ _ (Ow.at_new h_p_2 (Ow.at_new (Ow.free2 h25 h23) (Ow.at_new h24 upd_same)))) h_p_3) (h53 _ _ (ne_of_none (h26 _ _ (Ow.at_new h_p_2 (Ow.at_new (Ow.free2 h25 h23) (Ow.at_new h24 upd_same)))) h_p_3) (Ow.at_mut (ne_of_none (h26 _ _ (Ow.at_new h_p_2 (Ow.at_new (Ow.free2 h25 h23) (Ow.at_new h24 upd_same)))) h_p_3) (Ow.at_mut (ne_of_none (h26 _ _ (Ow.at_new h_p_2 (Ow.at_new (Ow.free2 h25 h23) (Ow.at_new h24 upd_same)))) h_p_3) (Ow.at_new h_p_3 (h26 _ _ (Ow.at_new h_p_2 (Ow.at_new (Ow.free2 h25 h23) (Ow.at_new h24 upd_same)))))))))) (h57 _ _ (Ow.at_mut (ne_of_none (h26 _ _ (Ow.at_new h_p_2 upd_same)) h_p_3) (h53 _ _ (ne_of_none (h26 _ _ (Ow.at_new h_p_2 upd_same)) h_p_3) (Ow.at_mut (ne_of_none (h26 _ _ (Ow.at_new h_p_2 upd_same)) h_p_3) (Ow.at_mut (ne_of_none (h26 _ _ (Ow.at_new h_p_2 upd_same)) h_p_3) (Ow.at_new h_p_3 (h26 _ _ (Ow.at_new h_p_2 upd_same)))))))) (by first | assumption | exact Ow.divw64 (by omega) (by omega) | exact Ow.mul0 ⟨by omega, by omega⟩ | exact Ow.mul1 ⟨by omega, by omega⟩ | exact Ow.shl0 (by omega) (by omega) (by omega) | exact ⟨by omega, by omega⟩ | exact ⟨by omega, by omega, by omega⟩ | omega | (simp only [List.length_append, List.length_cons, List.length_nil]; omega) | (subst_vars; omega)) (fun wy_4 o_12 dx_12 h_wy_4 h_o_12 => ?_)
            have hw_wy_4 : it_4 = Ow.wrd_Way wy_4 := by rcases h_it_4 with ⟨hz, rfl⟩ | ⟨hz, rfl⟩ | ⟨hz, rfl⟩ | ⟨hz, rfl⟩ <;> cases wy_4 <;> first | rfl | (exfalso; simp only [ix_Way] at h_wy_4; omega)
            refine ⟨_, rfl, ?_⟩
            refine ⟨_, rfl, ?_⟩
            refine ⟨_, rfl, ?_⟩
            refine ⟨_, rfl, ?_⟩
            refine ⟨_, rfl, ?_⟩
            refine ⟨_, _, rfl, rfl, ?_⟩
            refine ⟨_, _, rfl, rfl, (by first | assumption | exact Ow.divw64 (by omega) (by omega) | exact Ow.mul0 ⟨by omega, by omega⟩ | exact Ow.mul1 ⟨by omega, by omega⟩ | exact Ow.shl0 (by omega) (by omega) (by omega) | exact ⟨by omega, by omega⟩ | exact ⟨by omega, by omega, by omega⟩ | omega | (simp only [List.length_append, List.length_cons, List.length_nil]; omega) | (subst_vars; omega)), fun r_3 h_r_3 h0_r_3 h1_r_3 => ?_⟩
            refine ⟨_, _, rfl, rfl, ?_⟩
            refine ⟨_, _, _, _, _, _, wy_4, _, rfl, (by first | assumption | exact Ow.divw64 (by omega) (by omega) | exact Ow.mul0 ⟨by omega, by omega⟩ | exact Ow.mul1 ⟨by omega, by omega⟩ | exact Ow.shl0 (by omega) (by omega) (by omega) | exact ⟨by omega, by omega⟩ | exact ⟨by omega, by omega, by omega⟩ | omega | (simp only [List.length_append, List.length_cons, List.length_nil]; omega) | (subst_vars; omega)), h_o_12, (by first | assumption | exact Ow.divw64 (by omega) (by omega) | exact Ow.mul0 ⟨by omega, by omega⟩ | exact Ow.mul1 ⟨by omega, by omega⟩ | exact Ow.shl0 (by omega) (by omega) (by omega) | exact ⟨by omega, by omega⟩ | exact ⟨by omega, by omega, by omega⟩ | omega | (simp only [List.length_append, List.length_cons, List.length_nil]; omega) | (subst_vars; omega)), (by first | assumption | exact Ow.divw64 (by omega) (by omega) | exact Ow.mul0 ⟨by omega, by omega⟩ | exact Ow.mul1 ⟨by omega, by omega⟩ | exact Ow.shl0 (by omega) (by omega) (by omega) | exact ⟨by omega, by omega⟩ | exact ⟨by omega, by omega, by omega⟩ | omega | (simp only [List.length_append, List.length_cons, List.length_nil]; omega) | (subst_vars; omega)), (by first | assumption | exact Ow.divw64 (by omega) (by omega) | exact Ow.mul0 ⟨by omega, by omega⟩ | exact Ow.mul1 ⟨by omega, by omega⟩ | exact Ow.shl0 (by omega) (by omega) (by omega) | exact ⟨by omega, by omega⟩ | exact ⟨by omega, by omega, by omega⟩ | omega | (simp only [List.length_append, List.length_cons, List.length_nil]; omega) | (subst_vars; omega)), (Ow.Sz.mono (Ow.Sz.abs h49 h_ab_3) (by decide : 2340 ≤ 2350)), h52, (Ow.Sz.abs h28 h_ab), fun Hn_14 h59 => ?_⟩
            refine ⟨_, rfl, ?_⟩
            refine iteF ?_
            refine ⟨_, rfl, ?_⟩
            refine ⟨_, _, rfl, rfl, (.inr (Ow.mulx (Ow.Sz.lit (n := 3) (i := 7) (by decide)) (Ow.Sz.rng (n := 4) h55 h56 (by decide)) (by decide))), fun m_4 h_m_4 => ?_⟩
            have z_m_4 : Ow.Sz 7 m_4 := by rw [h_m_4]; exact (Ow.Sz.mul (Ow.Sz.lit (n := 3) (i := 7) (by decide)) (Ow.Sz.rng (n := 4) h55 h56 (by decide)))
            refine ⟨_, rfl, ?_⟩
            refine ⟨_, _, rfl, rfl, ?_⟩
            refine ⟨_, rfl, fun l_top_2 h_l_top_2 => ?_⟩
            have z_l_top_2 : Ow.Sz 8 l_top_2 := by rw [h_l_top_2]; exact (Ow.Sz.add z_m_4 (Ow.Sz.mono z_l_j_2 (by decide : 4 ≤ 7)))
            refine ⟨_, rfl, ?_⟩
            refine ⟨_, _, rfl, rfl, ?_⟩
            refine ⟨_, rfl, ?_⟩
            refine Ow.ifd (fun h60 => ?_) (fun h60 => ?_)
            · refine ⟨_, rfl, ?_⟩
              refine ⟨_, rfl, ?_⟩
              refine Ow.ixs4 (SqL.of (h59 _ _ (h57 _ _ (Ow.at_mut (ne_of_none (h26 _ _ (Ow.at_new h_p_2 (Ow.at_new (Ow.free2 h25 h23) (Ow.at_new h24 (Ow.at_new (Ow.free2 h22 h20) (Ow.at_new h21 (Ow.at_new (Ow.free2 h19 h17) (Ow.at_new h18 (Ow.at_new (Ow.free2 h16 h14) (Ow.at_new h15 (Ow.at_mut (ne_of_none upd_same h_D) (h10 _ _ (Ow.at_mut (ne_of_none upd_same h_D) (h7 _ _ (Ow.at_mut (ne_of_none upd_same h_D) (h4 _ _ (Ow.at_mut (ne_of_none upd_same h_D) (h1 _ _ (Ow.at_new h_D upd_same))))))))))))))))))) h_p_3) (h53 _ _ (ne_of_none (h26 _ _ (Ow.at_new h_p_2 (Ow.at_new (Ow.free2 h25 h23) (Ow.at_new h24 (Ow.at_new (Ow.free2 h22 h20) (Ow.at_new h21 (Ow.at_new (Ow.free2 h19 h17) (Ow.at_new h18 (Ow.at_new (Ow.free2 h16 h14) (Ow.at_new h15 (Ow.at_mut (ne_of_none upd_same h_D) (h10 _ _ (Ow.at_mut (ne_of_none upd_same h_D) (h7 _ _ (Ow.at_mut (ne_of_none upd_same h_D) (h4 _ _ (Ow.at_mut (ne_of_none upd_same h_D) (h1 _ _ (Ow.at_new h_D upd_same))))))))))))))))))) h_p_3) (Ow.at_mut (ne_of_none (h26 _ _ (Ow.at_new h_p_2 (Ow.at_new (Ow.free2 h25 h23) (Ow.at_new h24 (Ow.at_new (Ow.free2 h22 h20) (Ow.at_new h21 (Ow.at_new (Ow.free2 h19 h17) (Ow.at_new h18 (Ow.at_new (Ow.free2 h16 h14) (Ow.at_new h15 (Ow.at_mut (ne_of_none upd_same h_D) (h10 _ _ (Ow.at_mut (ne_of_none upd_same h_D) (h7 _ _ (Ow.at_mut (ne_of_none upd_same h_D) (h4 _ _ (Ow.at_mut (ne_of_none upd_same h_D) (h1 _ _ (Ow.at_new h_D upd_same))))))))))))))))))) h_p_3) (Ow.at_mut (ne_of_none (h26 _ _ (Ow.at_new h_p_2 (Ow.at_new (Ow.free2 h25 h23) (Ow.at_new h24 (Ow.at_new (Ow.free2 h22 h20) (Ow.at_new h21 (Ow.at_new (Ow.free2 h19 h17) (Ow.at_new h18 (Ow.at_new (Ow.free2 h16 h14) (Ow.at_new h15 (Ow.at_mut (ne_of_none upd_same h_D) (h10 _ _ (Ow.at_mut (ne_of_none upd_same h_D) (h7 _ _ (Ow.at_mut (ne_of_none upd_same h_D) (h4 _ _ (Ow.at_mut (ne_of_none upd_same h_D) (h1 _ _ (Ow.at_new h_D upd_same))))))))))))))))))) h_p_3) (Ow.at_new h_p_3 (h26 _ _ (Ow.at_new h_p_2 (Ow.at_new (Ow.free2 h25 h23) (Ow.at_new h24 (Ow.at_new (Ow.free2 h22 h20) (Ow.at_new h21 (Ow.at_new (Ow.free2 h19 h17) (Ow.at_new h18 (Ow.at_new (Ow.free2 h16 h14) (Ow.at_new h15 (Ow.at_mut (ne_of_none upd_same h_D) (h10 _ _ (Ow.at_mut (ne_of_none upd_same h_D) (h7 _ _ (Ow.at_mut (ne_of_none upd_same h_D) (h4 _ _ (Ow.at_mut (ne_of_none upd_same h_D) (h1 _ _ (Ow.at_new h_D upd_same))))))))))))))))))))))))))) (by first | assumption | exact Ow.divw64 (by omega) (by omega) | exact Ow.mul0 ⟨by omega, by omega⟩ | exact Ow.mul1 ⟨by omega, by omega⟩ | exact Ow.shl0 (by omega) (by omega) (by omega) | exact ⟨by omega, by omega⟩ | exact ⟨by omega, by omega, by omega⟩ | omega | (simp only [List.length_append, List.length_cons, List.length_nil]; omega) | (subst_vars; omega)) (fun it_5 h_it_5 => ?_)
              refine ⟨_, rfl, ?_⟩
              refine ⟨_, rfl, ?_⟩
              refine ⟨_, rfl, ?_⟩
              refine ixo_Way T (i := l_at_3) (SqL.of (h59 _ _ (h57 _ _ (Ow.at_mut (ne_of_none (h26 _ _ upd_same) h_p_3) (h53 _ _ (ne_of_none (h26 _ _ upd_same) h_p_3) (Ow.at_mut (ne_of_none (h26 _ _ upd_same) h_p_3) (Ow.at_mut (ne_of_none (h26 _ _ upd_same) h_p_3) (Ow.at_new h_p_3 (h26 _ _ upd_same))))))))) (h59 _ _ (h57 _ _ (Ow.at_mut (ne_of_none (h26 _ _ (Ow.at_new h_p_2 (Ow.at_new (Ow.free2 h25 h23) (Ow.at_new h24 (Ow.at_new (Ow.free2 h22 h20) (Ow.at_new h21 (Ow.at_new (Ow.free2 h19 h17) (Ow.at_new h18 upd_same)))))))) h_p_3) (h53 _ _ (ne_of_none (h26 _ _ (Ow.at_new h_p_2 (Ow.at_new (Ow.free2 h25 h23) (Ow.at_new h24 (Ow.at_new (Ow.free2 h22 h20) (Ow.at_new h21 (Ow.at_new (Ow.free2 h19 h17) (Ow.at_new h18 upd_same)))))))) h_p_3) (Ow.at_mut (ne_of_none (h26 _ _ (Ow.at_new h_p_2 (Ow.at_new (Ow.free2 h25 h23) (Ow.at_new h24 (Ow.at_new (Ow.free2 h22 h20) (Ow.at_new h21 (Ow.at_new (Ow.free2 h19 h17) (Ow.at_new h18 upd_same)))))))) h_p_3) (Ow.at_mut (ne_of_none (h26 _ _ (Ow.at_new h_p_2 (Ow.at_new (Ow.free2 h25 h23) (Ow.at_new h24 (Ow.at_new (Ow.free2 h22 h20) (Ow.at_new h21 (Ow.at_new (Ow.free2 h19 h17) (Ow.at_new h18 upd_same)))))))) h_p_3) (Ow.at_new h_p_3 (h26 _ _ (Ow.at_new h_p_2 (Ow.at_new (Ow.free2 h25 h23) (Ow.at_new h24 (Ow.at_new (Ow.free2 h22 h20) (Ow.at_new h21 (Ow.at_new (Ow.free2 h19 h17) (Ow.at_new h18 upd_same))))))))))))))) (h59 _ _ (h57 _ _ (Ow.at_mut (ne_of_none (h26 _ _ (Ow.at_new h_p_2 (Ow.at_new (Ow.free2 h25 h23) (Ow.at_new h24 (Ow.at_new (Ow.free2 h22 h20) (Ow.at_new h21 upd_same)))))) h_p_3) (h53 _ _ (ne_of_none (h26 _ _ (Ow.at_new h_p_2 (Ow.at_new (Ow.free2 h25 h23) (Ow.at_new h24 (Ow.at_new (Ow.free2 h22 h20) (Ow.at_new h21 upd_same)))))) h_p_3) (Ow.at_mut (ne_of_none (h26 _ _ (Ow.at_new h_p_2 (Ow.at_new (Ow.free2 h25 h23) (Ow.at_new h24 (Ow.at_new (Ow.free2 h22 h20) (Ow.at_new h21 upd_same)))))) h_p_3) (Ow.at_mut (ne_of_none (h26 _ _ (Ow.at_new h_p_2 (Ow.at_new (Ow.free2 h25 h23) (Ow.at_new h24 (Ow.at_new (Ow.free2 h22 h20) (Ow.at_new h21 upd_same)))))) h_p_3) (Ow.at_new h_p_3 (h26 _ _ (Ow.at_new h_p_2 (Ow.at_new (Ow.free2 h25 h23) (Ow.at_new h24 (Ow.at_new (Ow.free2 h22 h20) (Ow.at_new h21 upd_same))))))))))))) (h59 _ _ (h57 _ _ (Ow.at_mut (ne_of_none (h26 _ _ (Ow.at_new h_p_2 (Ow.at_new (Ow.free2 h25 h23) (Ow.at_new h24 upd_same)))) h_p_3) (h53 _ _ (ne_of_none (h26 _ _ (Ow.at_new h_p_2 (Ow.at_new (Ow.free2 h25 h23) (Ow.at_new h24 upd_same)))) h_p_3) (Ow.at_mut (ne_of_none (h26 _ _ (Ow.at_new h_p_2 (Ow.at_new (Ow.free2 h25 h23) (Ow.at_new h24 upd_same)))) h_p_3) (Ow.at_mut (ne_of_none (h26 _ _ (Ow.at_new h_p_2 (Ow.at_new (Ow.free2 h25 h23) (Ow.at_new h24 upd_same)))) h_p_3) (Ow.at_new h_p_3 (h26 _ _ (Ow.at_new h_p_2 (Ow.at_new (Ow.free2 h25 h23) (Ow.at_new h24 upd_same))))))))))) (h59 _ _ (h57 _ _ (Ow.at_mut (ne_of_none (h26 _ _ (Ow.at_new h_p_2 upd_same)) h_p_3) (h53 _ _ (ne_of_none (h26 _ _ (Ow.at_new h_p_2 upd_same)) h_p_3) (Ow.at_mut (ne_of_none (h26 _ _ (Ow.at_new h_p_2 upd_same)) h_p_3) (Ow.at_mut (ne_of_none (h26 _ _ (Ow.at_new h_p_2 upd_same)) h_p_3) (Ow.at_new h_p_3 (h26 _ _ (Ow.at_new h_p_2 upd_same))))))))) (by first | assumption | exact Ow.divw64 (by omega) (by omega) | exact Ow.mul0 ⟨by omega, by omega⟩ | exact Ow.mul1 ⟨by omega, by omega⟩ | exact Ow.shl0 (by omega) (by omega) (by omega) | exact ⟨by omega, by omega⟩ | exact ⟨by omega, by omega, by omega⟩ | omega | (simp only [List.length_append, List.length_cons, List.length_nil]; omega) | (subst_vars; omega)) (fun wy_5 o_13 dx_13 h_wy_5 h_o_13 => ?_)
              have hw_wy_5 : it_5 = Ow.wrd_Way wy_5 := by rcases h_it_5 with ⟨hz, rfl⟩ | ⟨hz, rfl⟩ | ⟨hz, rfl⟩ | ⟨hz, rfl⟩ <;> cases wy_5 <;> first | rfl | (exfalso; simp only [ix_Way] at h_wy_5; omega)
              refine ⟨_, _, _, Ow.cls_Way T wy_5, sp_Way_rounded T, rfl, (by cases wy_5 <;> first | exact .inl ⟨rfl, rfl⟩ | exact .inr (.inl ⟨rfl, rfl⟩) | exact .inr (.inr (.inl ⟨rfl, rfl⟩)) | exact .inr (.inr (.inr (⟨rfl, rfl⟩)))), h_o_13, rfl, ?_⟩
              refine ⟨_, rfl, ?_⟩
              refine ⟨_, _, _, wy_5, _, rfl, h_o_13, (Ow.Sz.mono z_l_top_2 (by decide : 8 ≤ 4000)), (by first | assumption | exact Ow.divw64 (by omega) (by omega) | exact Ow.mul0 ⟨by omega, by omega⟩ | exact Ow.mul1 ⟨by omega, by omega⟩ | exact Ow.shl0 (by omega) (by omega) (by omega) | exact ⟨by omega, by omega⟩ | exact ⟨by omega, by omega, by omega⟩ | omega | (simp only [List.length_append, List.length_cons, List.length_nil]; omega) | (subst_vars; omega)), (Ow.Sz.mono (Ow.Sz.lit (n := 3) (i := 4) (by decide)) (by decide : 3 ≤ 4000)), fun t_8 h61 h62 Hn_15 h63 => ?_⟩
              refine ⟨_, _, _, _, _, rfl, (by first | assumption | exact Ow.divw64 (by omega) (by omega) | exact Ow.mul0 ⟨by omega, by omega⟩ | exact Ow.mul1 ⟨by omega, by omega⟩ | exact Ow.shl0 (by omega) (by omega) (by omega) | exact ⟨by omega, by omega⟩ | exact ⟨by omega, by omega, by omega⟩ | omega | (simp only [List.length_append, List.length_cons, List.length_nil]; omega) | (subst_vars; omega) | (subst_vars; exact Ow.lies (by omega))), (by first | assumption | exact Ow.divw64 (by omega) (by omega) | exact Ow.mul0 ⟨by omega, by omega⟩ | exact Ow.mul1 ⟨by omega, by omega⟩ | exact Ow.shl0 (by omega) (by omega) (by omega) | exact ⟨by omega, by omega⟩ | exact ⟨by omega, by omega, by omega⟩ | omega | (simp only [List.length_append, List.length_cons, List.length_nil]; omega) | (subst_vars; omega) | (subst_vars; exact Ow.lies (by omega))), (by first | assumption | exact Ow.divw64 (by omega) (by omega) | exact Ow.mul0 ⟨by omega, by omega⟩ | exact Ow.mul1 ⟨by omega, by omega⟩ | exact Ow.shl0 (by omega) (by omega) (by omega) | exact ⟨by omega, by omega⟩ | exact ⟨by omega, by omega, by omega⟩ | omega | (simp only [List.length_append, List.length_cons, List.length_nil]; omega) | (subst_vars; omega) | (subst_vars; exact Ow.lies (by omega))), (Ow.Sz.mono z_l_top_2 (by decide : 8 ≤ 6000)), (Ow.Sz.mono (Ow.Sz.lit (n := 3) (i := 4) (by decide)) (by decide : 3 ≤ 6000)), (Ow.Sz.mono h62 (by decide : 4002 ≤ 6000)), ?_⟩
              refine ⟨_, rfl, ?_⟩
              refine iteF ?_
              exact ⟨_, _, _, _, rfl, ((h57.trans h59).trans h63)⟩
            · refine iteF ?_
              exact ⟨_, _, _, _, rfl, (h57.trans h59)⟩
          · rintro _ Hn_16 ⟨_, _, _, _, rfl, h64⟩
            refine ⟨_, rfl, ?_⟩
            refine ⟨_, _, rfl, rfl, (by first | assumption | exact Ow.divw64 (by omega) (by omega) | exact Ow.mul0 ⟨by omega, by omega⟩ | exact Ow.mul1 ⟨by omega, by omega⟩ | exact Ow.shl0 (by omega) (by omega) (by omega) | exact ⟨by omega, by omega⟩ | exact ⟨by omega, by omega, by omega⟩ | omega | (simp only [List.length_append, List.length_cons, List.length_nil]; omega) | (subst_vars; omega)), fun l_at_4 h_l_at_4 h0_l_at_4 h1_l_at_4 => ?_⟩
            refine ⟨_, rfl, ?_⟩
            refine ⟨_, rfl, ?_⟩
            refine Ow.ixs4 (SqL.of (h64 _ _ (Ow.at_mut (ne_of_none (h26 _ _ (Ow.at_new h_p_2 (Ow.at_new (Ow.free2 h25 h23) (Ow.at_new h24 (Ow.at_new (Ow.free2 h22 h20) (Ow.at_new h21 (Ow.at_new (Ow.free2 h19 h17) (Ow.at_new h18 (Ow.at_new (Ow.free2 h16 h14) (Ow.at_new h15 (Ow.at_mut (ne_of_none upd_same h_D) (h10 _ _ (Ow.at_mut (ne_of_none upd_same h_D) (h7 _ _ (Ow.at_mut (ne_of_none upd_same h_D) (h4 _ _ (Ow.at_mut (ne_of_none upd_same h_D) (h1 _ _ (Ow.at_new h_D upd_same))))))))))))))))))) h_p_3) (h53 _ _ (ne_of_none (h26 _ _ (Ow.at_new h_p_2 (Ow.at_new (Ow.free2 h25 h23) (Ow.at_new h24 (Ow.at_new (Ow.free2 h22 h20) (Ow.at_new h21 (Ow.at_new (Ow.free2 h19 h17) (Ow.at_new h18 (Ow.at_new (Ow.free2 h16 h14) (Ow.at_new h15 (Ow.at_mut (ne_of_none upd_same h_D) (h10 _ _ (Ow.at_mut (ne_of_none upd_same h_D) (h7 _ _ (Ow.at_mut (ne_of_none upd_same h_D) (h4 _ _ (Ow.at_mut (ne_of_none upd_same h_D) (h1 _ _ (Ow.at_new h_D upd_same))))))))))))))))))) h_p_3) (Ow.at_mut (ne_of_none (h26 _ _ (Ow.at_new h_p_2 (Ow.at_new (Ow.free2 h25 h23) (Ow.at_new h24 (Ow.at_new (Ow.free2 h22 h20) (Ow.at_new h21 (Ow.at_new (Ow.free2 h19 h17) (Ow.at_new h18 (Ow.at_new (Ow.free2 h16 h14) (Ow.at_new h15 (Ow.at_mut (ne_of_none upd_same h_D) (h10 _ _ (Ow.at_mut (ne_of_none upd_same h_D) (h7 _ _ (Ow.at_mut (ne_of_none upd_same h_D) (h4 _ _ (Ow.at_mut (ne_of_none upd_same h_D) (h1 _ _ (Ow.at_new h_D upd_same))))))))))))))))))) h_p_3) (Ow.at_mut (ne_of_none (h26 _ _ (Ow.at_new h_p_2 (Ow.at_new (Ow.free2 h25 h23) (Ow.at_new h24 (Ow.at_new (Ow.free2 h22 h20) (Ow.at_new h21 (Ow.at_new (Ow.free2 h19 h17) (Ow.at_new h18 (Ow.at_new (Ow.free2 h16 h14) (Ow.at_new h15 (Ow.at_mut (ne_of_none upd_same h_D) (h10 _ _ (Ow.at_mut (ne_of_none upd_same h_D) (h7 _ _ (Ow.at_mut (ne_of_none upd_same h_D) (h4 _ _ (Ow.at_mut (ne_of_none upd_same h_D) (h1 _ _ (Ow.at_new h_D upd_same))))))))))))))))))) h_p_3) (Ow.at_new h_p_3 (h26 _ _ (Ow.at_new h_p_2 (Ow.at_new (Ow.free2 h25 h23) (Ow.at_new h24 (Ow.at_new (Ow.free2 h22 h20) (Ow.at_new h21 (Ow.at_new (Ow.free2 h19 h17) (Ow.at_new h18 (Ow.at_new (Ow.free2 h16 h14) (Ow.at_new h15 (Ow.at_mut (ne_of_none upd_same h_D) (h10 _ _ (Ow.at_mut (ne_of_none upd_same h_D) (h7 _ _ (Ow.at_mut (ne_of_none upd_same h_D) (h4 _ _ (Ow.at_mut (ne_of_none upd_same h_D) (h1 _ _ (Ow.at_new h_D upd_same)))))))))))))))))))))))))) (by first | assumption | exact Ow.divw64 (by omega) (by omega) | exact Ow.mul0 ⟨by omega, by omega⟩ | exact Ow.mul1 ⟨by omega, by omega⟩ | exact Ow.shl0 (by omega) (by omega) (by omega) | exact ⟨by omega, by omega⟩ | exact ⟨by omega, by omega, by omega⟩ | omega | (simp only [List.length_append, List.length_cons, List.length_nil]; omega) | (subst_vars; omega)) (fun it_6 h_it_6 => ?_)
            refine ⟨_, rfl, ?_⟩
            refine ⟨_, rfl, ?_⟩
            refine ixo_Way T (i := l_at_4) (SqL.of (h64 _ _ (Ow.at_mut (ne_of_none (h26 _ _ upd_same) h_p_3) (h53 _ _ (ne_of_none (h26 _ _ upd_same) h_p_3) (Ow.at_mut (ne_of_none (h26 _ _ upd_same) h_p_3) (Ow.at_mut (ne_of_none (h26 _ _ upd_same) h_p_3) (Ow.at_new h_p_3 (h26 _ _ upd_same)))))))) (h64 _ _ (Ow.at_mut (ne_of_none (h26 _ _ (Ow.at_new h_p_2 (Ow.at_new (Ow.free2 h25 h23) (Ow.at_new h24 (Ow.at_new (Ow.free2 h22 h20) (Ow.at_new h21 (Ow.at_new (Ow.free2 h19 h17) (Ow.at_new h18 upd_same)))))))) h_p_3) (h53 _ _ (ne_of_none (h26 _ _ (Ow.at_new h_p_2 (Ow.at_new (Ow.free2 h25 h23) (Ow.at_new h24 (Ow.at_new (Ow.free2 h22 h20) (Ow.at_new h21 (Ow.at_new (Ow.free2 h19 h17) (Ow.at_new h18 upd_same)))))))) h_p_3) (Ow.at_mut (ne_of_none (h26 _ _ (Ow.at_new h_p_2 (Ow.at_new (Ow.free2 h25 h23) (Ow.at_new h24 (Ow.at_new (Ow.free2 h22 h20) (Ow.at_new h21 (Ow.at_new (Ow.free2 h19 h17) (Ow.at_new h18 upd_same)))))))) h_p_3) (Ow.at_mut (ne_of_none (h26 _ _ (Ow.at_new h_p_2 (Ow.at_new (Ow.free2 h25 h23) (Ow.at_new h24 (Ow.at_new (Ow.free2 h22 h20) (Ow.at_new h21 (Ow.at_new (Ow.free2 h19 h17) (Ow.at_new h18 upd_same)))))))) h_p_3) (Ow.at_new h_p_3 (h26 _ _ (Ow.at_new h_p_2 (Ow.at_new (Ow.free2 h25 h23) (Ow.at_new h24 (Ow.at_new (Ow.free2 h22 h20) (Ow.at_new h21 (Ow.at_new (Ow.free2 h19 h17) (Ow.at_new h18 upd_same)))))))))))))) (h64 _ _ (Ow.at_mut (ne_of_none (h26 _ _ (Ow.at_new h_p_2 (Ow.at_new (Ow.free2 h25 h23) (Ow.at_new h24 (Ow.at_new (Ow.free2 h22 h20) (Ow.at_new h21 upd_same)))))) h_p_3) (h53 _ _ (ne_of_none (h26 _ _ (Ow.at_new h_p_2 (Ow.at_new (Ow.free2 h25 h23) (Ow.at_new h24 (Ow.at_new (Ow.free2 h22 h20) (Ow.at_new h21 upd_same)))))) h_p_3) (Ow.at_mut (ne_of_none (h26 _ _ (Ow.at_new h_p_2 (Ow.at_new (Ow.free2 h25 h23) (Ow.at_new h24 (Ow.at_new (Ow.free2 h22 h20) (Ow.at_new h21 upd_same)))))) h_p_3) (Ow.at_mut (ne_of_none (h26 _ _ (Ow.at_new h_p_2 (Ow.at_new (Ow.free2 h25 h23) (Ow.at_new h24 (Ow.at_new (Ow.free2 h22 h20) (Ow.at_new h21 upd_same)))))) h_p_3) (Ow.at_new h_p_3 (h26 _ _ (Ow.at_new h_p_2 (Ow.at_new (Ow.free2 h25 h23) (Ow.at_new h24 (Ow.at_new (Ow.free2 h22 h20) (Ow.at_new h21 upd_same)))))))))))) (h64 _ _ (Ow.at_mut (ne_of_none (h26 _ _ (Ow.at_new h_p_2 (Ow.at_new (Ow.free2 h25 h23) (Ow.at_new h24 upd_same)))) h_p_3) (h53 _ _ (ne_of_none (h26 _ _ (Ow.at_new h_p_2 (Ow.at_new (Ow.free2 h25 h23) (Ow.at_new h24 upd_same)))) h_p_3) (Ow.at_mut (ne_of_none (h26 _ _ (Ow.at_new h_p_2 (Ow.at_new (Ow.free2 h25 h23) (Ow.at_new h24 upd_same)))) h_p_3) (Ow.at_mut (ne_of_none (h26 _ _ (Ow.at_new h_p_2 (Ow.at_new (Ow.free2 h25 h23) (Ow.at_new h24 upd_same)))) h_p_3) (Ow.at_new h_p_3 (h26 _ _ (Ow.at_new h_p_2 (Ow.at_new (Ow.free2 h25 h23) (Ow.at_new h24 upd_same)))))))))) (h64 _ _ (Ow.at_mut (ne_of_none (h26 _ _ (Ow.at_new h_p_2 upd_same)) h_p_3) (h53 _ _ (ne_of_none (h26 _ _ (Ow.at_new h_p_2 upd_same)) h_p_3) (Ow.at_mut (ne_of_none (h26 _ _ (Ow.at_new h_p_2 upd_same)) h_p_3) (Ow.at_mut (ne_of_none (h26 _ _ (Ow.at_new h_p_2 upd_same)) h_p_3) (Ow.at_new h_p_3 (h26 _ _ (Ow.at_new h_p_2 upd_same)))))))) (by first | assumption | exact Ow.divw64 (by omega) (by omega) | exact Ow.mul0 ⟨by omega, by omega⟩ | exact Ow.mul1 ⟨by omega, by omega⟩ | exact Ow.shl0 (by omega) (by omega) (by omega) | exact ⟨by omega, by omega⟩ | exact ⟨by omega, by omega, by omega⟩ | omega | (simp only [List.length_append, List.length_cons, List.length_nil]; omega) | (subst_vars; omega)) (fun wy_6 o_14 dx_14 h_wy_6 h_o_14 => ?_)
            have hw_wy_6 : it_6 = Ow.wrd_Way wy_6 := by rcases h_it_6 with ⟨hz, rfl⟩ | ⟨hz, rfl⟩ | ⟨hz, rfl⟩ | ⟨hz, rfl⟩ <;> cases wy_6 <;> first | rfl | (exfalso; simp only [ix_Way] at h_wy_6; omega)
            refine ⟨_, rfl, ?_⟩
            refine ⟨_, _, rfl, rfl, ?_⟩
            refine ⟨_, rfl, ?_⟩
            refine ⟨_, rfl, ?_⟩
            refine ⟨_, rfl, ?_⟩
            refine ⟨_, _, rfl, rfl, ?_⟩
            refine ⟨_, _, _, _, _, _, wy_6, _, rfl, (by first | assumption | exact Ow.divw64 (by omega) (by omega) | exact Ow.mul0 ⟨by omega, by omega⟩ | exact Ow.mul1 ⟨by omega, by omega⟩ | exact Ow.shl0 (by omega) (by omega) (by omega) | exact ⟨by omega, by omega⟩ | exact ⟨by omega, by omega, by omega⟩ | omega | (simp only [List.length_append, List.length_cons, List.length_nil]; omega) | (subst_vars; omega)), h_o_14, (by first | assumption | exact Ow.divw64 (by omega) (by omega) | exact Ow.mul0 ⟨by omega, by omega⟩ | exact Ow.mul1 ⟨by omega, by omega⟩ | exact Ow.shl0 (by omega) (by omega) (by omega) | exact ⟨by omega, by omega⟩ | exact ⟨by omega, by omega, by omega⟩ | omega | (simp only [List.length_append, List.length_cons, List.length_nil]; omega) | (subst_vars; omega)), (by first | assumption | exact Ow.divw64 (by omega) (by omega) | exact Ow.mul0 ⟨by omega, by omega⟩ | exact Ow.mul1 ⟨by omega, by omega⟩ | exact Ow.shl0 (by omega) (by omega) (by omega) | exact ⟨by omega, by omega⟩ | exact ⟨by omega, by omega, by omega⟩ | omega | (simp only [List.length_append, List.length_cons, List.length_nil]; omega) | (subst_vars; omega)), (by first | assumption | exact Ow.divw64 (by omega) (by omega) | exact Ow.mul0 ⟨by omega, by omega⟩ | exact Ow.mul1 ⟨by omega, by omega⟩ | exact Ow.shl0 (by omega) (by omega) (by omega) | exact ⟨by omega, by omega⟩ | exact ⟨by omega, by omega, by omega⟩ | omega | (simp only [List.length_append, List.length_cons, List.length_nil]; omega) | (subst_vars; omega)), (Ow.Sz.mono (Ow.Sz.add (Ow.Sz.abs h49 h_ab_3) (Ow.Sz.mono (Ow.Sz.lit (n := 1) (i := 1) (by decide)) (by decide : 1 ≤ 2340))) (by decide : 2341 ≤ 2350)), h52, (Ow.Sz.abs h28 h_ab), fun Hn_17 h65 => ?_⟩
            refine ⟨_, rfl, ?_⟩
            refine iteF ?_
            exact ⟨_, _, _, _, _, _, _, _, _, _, rfl, (((Ow.same_mut (Ow.same_frame (Ow.same_mut (Ow.same_mut (h26.trans (Ow.same_new h_p_3)) (Same.free h26 h_p_3)) (Same.free h26 h_p_3)) h53 (Same.free h26 h_p_3)) (Same.free h26 h_p_3)).trans h64).trans h65)⟩
      · rintro _ Hn_18 ⟨_, _, _, _, _, _, _, _, _, _, rfl, h66⟩
        exact kont _ (((((((((((Ow.same_mut ((Ow.same_mut ((Ow.same_mut ((Ow.same_mut (((Ow.same_new h_p).trans (Ow.same_new h_D)).trans h1) (Same.free (Ow.same_new h_p) h_D)).trans h4) (Same.free (Ow.same_new h_p) h_D)).trans h7) (Same.free (Ow.same_new h_p) h_D)).trans h10) (Same.free (Ow.same_new h_p) h_D)).trans (Ow.same_new h15)).trans (Ow.same_new (Ow.free2 h16 h14))).trans (Ow.same_new h18)).trans (Ow.same_new (Ow.free2 h19 h17))).trans (Ow.same_new h21)).trans (Ow.same_new (Ow.free2 h22 h20))).trans (Ow.same_new h24)).trans (Ow.same_new (Ow.free2 h25 h23))).trans (Ow.same_new h_p_2)).trans h66)
    · refine ⟨_, rfl, ?_⟩
      refine ⟨_, _, rfl, .inl (Ow.seq (Ow.same_mut ((Ow.same_mut ((Ow.same_mut ((Ow.same_mut (((Ow.same_new h_p).trans (Ow.same_new h_D)).trans h1) (Same.free (Ow.same_new h_p) h_D)).trans h4) (Same.free (Ow.same_new h_p) h_D)).trans h7) (Same.free (Ow.same_new h_p) h_D)).trans h10) (Same.free (Ow.same_new h_p) h_D)) c0), ?_⟩
      refine ⟨_, rfl, fun len_2 h_len_2 => ?_⟩
      rw [List.length_map] at h_len_2
      refine ⟨_, _, rfl, ?_⟩
      refine ⟨_, rfl, fun m_5 h_m_5 => ?_⟩
      have hm_m_5 := Ow.min_ite h_m_5
      refine ⟨_, _, rfl, ?_⟩
      refine ⟨_, rfl, fun m_6 h_m_6 => ?_⟩
      have hm_m_6 := Ow.max_ite h_m_6
      refine ⟨_, rfl, (by first | assumption | exact Ow.divw64 (by omega) (by omega) | exact Ow.mul0 ⟨by omega, by omega⟩ | exact Ow.mul1 ⟨by omega, by omega⟩ | exact Ow.shl0 (by omega) (by omega) (by omega) | exact ⟨by omega, by omega⟩ | exact ⟨by omega, by omega, by omega⟩ | omega | (simp only [List.length_append, List.length_cons, List.length_nil]; omega) | (subst_vars; omega)), (by first | assumption | exact Ow.divw64 (by omega) (by omega) | exact Ow.mul0 ⟨by omega, by omega⟩ | exact Ow.mul1 ⟨by omega, by omega⟩ | exact Ow.shl0 (by omega) (by omega) (by omega) | exact ⟨by omega, by omega⟩ | exact ⟨by omega, by omega, by omega⟩ | omega | (simp only [List.length_append, List.length_cons, List.length_nil]; omega) | (subst_vars; omega)), ?_⟩
      refine for_range (lo := 0) (fun i σ2 H2 => ∃ (v_3 : Option V) (v_4 : Option V) (v_5 : Option V) (v_6 : Option V) (v_7 : Option V) (v_8 : Option V) (v_9 : Option V) (v_10 : Option V) (v_11 : Option V) (v_12 : Option V), σ2 = [some (.ref script), some (.ref p), some (.ref D), v_3, v_4, v_5, v_6, v_7, v_8, v_9, v_10, v_11, v_12] ∧ Same _ H2) ⟨_, _, _, _, _, _, _, _, _, _, rfl, Same.refl _⟩ ?_ ?_
      · rintro i_7 _ Hn_19 h68 ⟨_, _, _, _, _, _, _, _, _, _, rfl, h67⟩
        refine Ow.gturn (fun l_k_2 h_l_k_2 => ?_)
        refine ⟨_, rfl, ?_⟩
        refine ⟨_, rfl, ?_⟩
        refine ⟨_, _, _, rfl, (Ow.seq ((Ow.same_mut ((Ow.same_mut ((Ow.same_mut ((Ow.same_mut (((Ow.same_new h_p).trans (Ow.same_new h_D)).trans h1) (Same.free (Ow.same_new h_p) h_D)).trans h4) (Same.free (Ow.same_new h_p) h_D)).trans h7) (Same.free (Ow.same_new h_p) h_D)).trans h10) (Same.free (Ow.same_new h_p) h_D)).trans h67) c0), (by first | assumption | exact Ow.divw64 (by omega) (by omega) | exact Ow.mul0 ⟨by omega, by omega⟩ | exact Ow.mul1 ⟨by omega, by omega⟩ | exact Ow.shl0 (by omega) (by omega) (by omega) | exact ⟨by omega, by omega⟩ | exact ⟨by omega, by omega, by omega⟩ | omega | (simp only [List.length_append, List.length_cons, List.length_nil]; omega) | (subst_vars; omega)), (by first | assumption | exact Ow.divw64 (by omega) (by omega) | exact Ow.mul0 ⟨by omega, by omega⟩ | exact Ow.mul1 ⟨by omega, by omega⟩ | exact Ow.shl0 (by omega) (by omega) (by omega) | exact ⟨by omega, by omega⟩ | exact ⟨by omega, by omega, by omega⟩ | omega | (simp only [List.length_append, List.length_cons, List.length_nil]; omega) | (subst_vars; omega)), fun t_9 => ?_⟩
        refine ⟨_, rfl, fun a_2 n_2 p_4 h_p_4 => ?_⟩
        refine ⟨_, rfl, ?_⟩
        refine ⟨_, _, _, _, rfl, upd_same, fun t_10 a2_9 n2_9 h69 => ?_⟩
        refine ⟨_, rfl, ?_⟩
        refine ⟨_, rfl, fun ab_4 h_ab_4 => ?_⟩
        have hm_ab_4 := Ow.abs_ite h_ab_4
        refine ⟨_, rfl, ?_⟩
        refine ⟨rfl, ?_⟩
        refine ⟨_, rfl, ?_⟩
        refine Ow.ifeqi (fun h70 => ?_) (fun h70 => ?_)
        · refine ⟨_, rfl, ?_⟩
          refine ⟨_, _, _, _, _, rfl, upd_same, (by first | assumption | exact Ow.divw64 (by omega) (by omega) | exact Ow.mul0 ⟨by omega, by omega⟩ | exact Ow.mul1 ⟨by omega, by omega⟩ | exact Ow.shl0 (by omega) (by omega) (by omega) | exact ⟨by omega, by omega⟩ | exact ⟨by omega, by omega, by omega⟩ | omega | (simp only [List.length_append, List.length_cons, List.length_nil]; omega) | (subst_vars; omega)), (by first | assumption | exact Ow.divw64 (by omega) (by omega) | exact Ow.mul0 ⟨by omega, by omega⟩ | exact Ow.mul1 ⟨by omega, by omega⟩ | exact Ow.shl0 (by omega) (by omega) (by omega) | exact ⟨by omega, by omega⟩ | exact ⟨by omega, by omega, by omega⟩ | omega | (simp only [List.length_append, List.length_cons, List.length_nil]; omega) | (subst_vars; omega)), fun t_11 a2_10 n2_10 h71 h72 => ?_⟩
          refine ⟨_, _, rfl, rfl, ?_⟩
          refine ⟨_, rfl, fun l_divisor_2 h_l_divisor_2 => ?_⟩
          have z_l_divisor_2 : Ow.Sz 5 l_divisor_2 := by rw [h_l_divisor_2]; exact (Ow.Sz.add (Ow.Sz.mono (Ow.Sz.lit (n := 1) (i := 1) (by decide)) (by decide : 1 ≤ 4)) (Ow.Sz.rng (n := 4) h71 h72 (by decide)))
          refine ⟨_, rfl, ?_⟩
          refine ⟨_, _, _, _, rfl, upd_same, fun t_12 a2_11 n2_11 h73 => ?_⟩
          refine ⟨_, rfl, ?_⟩
          refine ⟨_, rfl, fun ab_5 h_ab_5 => ?_⟩
          have hm_ab_5 := Ow.abs_ite h_ab_5
          refine ⟨_, rfl, ?_⟩
          refine ⟨_, rfl, ?_⟩
          refine ⟨_, _, _, _, _, rfl, upd_same, (by first | assumption | exact Ow.divw64 (by omega) (by omega) | exact Ow.mul0 ⟨by omega, by omega⟩ | exact Ow.mul1 ⟨by omega, by omega⟩ | exact Ow.shl0 (by omega) (by omega) (by omega) | exact ⟨by omega, by omega⟩ | exact ⟨by omega, by omega, by omega⟩ | omega | (simp only [List.length_append, List.length_cons, List.length_nil]; omega) | (subst_vars; omega)), (Ow.Sz.mono z_l_divisor_2 (by decide : 5 ≤ 2340)), fun l_rest_here_3 a2_12 n2_12 h74 h75 h76 Hn_20 h77 h78 => ?_⟩
          refine ⟨_, rfl, ?_⟩
          refine ⟨_, _, _, _, _, rfl, h78, (by first | assumption | exact Ow.divw64 (by omega) (by omega) | exact Ow.mul0 ⟨by omega, by omega⟩ | exact Ow.mul1 ⟨by omega, by omega⟩ | exact Ow.shl0 (by omega) (by omega) (by omega) | exact ⟨by omega, by omega⟩ | exact ⟨by omega, by omega, by omega⟩ | omega | (simp only [List.length_append, List.length_cons, List.length_nil]; omega) | (subst_vars; omega)), (by first | assumption | exact Ow.divw64 (by omega) (by omega) | exact Ow.mul0 ⟨by omega, by omega⟩ | exact Ow.mul1 ⟨by omega, by omega⟩ | exact Ow.shl0 (by omega) (by omega) (by omega) | exact ⟨by omega, by omega⟩ | exact ⟨by omega, by omega, by omega⟩ | omega | (simp only [List.length_append, List.length_cons, List.length_nil]; omega) | (subst_vars; omega)), fun l_turn_3 a2_13 n2_13 h79 h80 => ?_⟩
          refine ⟨_, rfl, (by first | assumption | exact Ow.divw64 (by omega) (by omega) | exact Ow.mul0 ⟨by omega, by omega⟩ | exact Ow.mul1 ⟨by omega, by omega⟩ | exact Ow.shl0 (by omega) (by omega) (by omega) | exact ⟨by omega, by omega⟩ | exact ⟨by omega, by omega, by omega⟩ | omega | (simp only [List.length_append, List.length_cons, List.length_nil]; omega) | (subst_vars; omega)), (by first | assumption | exact Ow.divw64 (by omega) (by omega) | exact Ow.mul0 ⟨by omega, by omega⟩ | exact Ow.mul1 ⟨by omega, by omega⟩ | exact Ow.shl0 (by omega) (by omega) (by omega) | exact ⟨by omega, by omega⟩ | exact ⟨by omega, by omega, by omega⟩ | omega | (simp only [List.length_append, List.length_cons, List.length_nil]; omega) | (subst_vars; omega)), ?_⟩
          refine for_range (lo := 0) (fun i σ2 H2 => ∃ (v_9 : Option V) (v_10 : Option V) (v_11 : Option V) (v_12 : Option V), σ2 = [some (.ref script), some (.ref p), some (.ref D), some (.int (l_k_2)), some (.ref p_4), some (.int (l_divisor_2)), some (.int (ab_5)), some (.int (l_rest_here_3)), some (.int (l_turn_3)), v_9, v_10, v_11, v_12] ∧ Same _ H2) ⟨_, _, _, _, rfl, Same.refl _⟩ ?_ ?_
          · rintro i_8 _ Hn_21 h82 ⟨_, _, _, _, rfl, h81⟩
            refine Ow.gturn (fun l_j_3 h_l_j_3 => ?_)
            have z_l_j_3 : Ow.Sz 4 l_j_3 := by unfold Ow.Sz; omega
            refine ⟨_, rfl, ?_⟩
            refine ⟨_, rfl, ?_⟩
            refine ⟨_, _, rfl, rfl, ?_⟩
            refine ⟨_, _, rfl, rfl, (by first | assumption | exact Ow.divw64 (by omega) (by omega) | exact Ow.mul0 ⟨by omega, by omega⟩ | exact Ow.mul1 ⟨by omega, by omega⟩ | exact Ow.shl0 (by omega) (by omega) (by omega) | exact ⟨by omega, by omega⟩ | exact ⟨by omega, by omega, by omega⟩ | omega | (simp only [List.length_append, List.length_cons, List.length_nil]; omega) | (subst_vars; omega)), fun l_at_5 h_l_at_5 h0_l_at_5 h1_l_at_5 => ?_⟩
            refine ⟨_, rfl, ?_⟩
            refine ⟨_, rfl, ?_⟩
            refine Ow.ixs4 (SqL.of (h81 _ _ (Ow.at_mut (ne_of_none (h67 _ _ (Ow.at_mut (ne_of_none upd_same h_D) (h10 _ _ (Ow.at_mut (ne_of_none upd_same h_D) (h7 _ _ (Ow.at_mut (ne_of_none upd_same h_D) (h4 _ _ (Ow.at_mut (ne_of_none upd_same h_D) (h1 _ _ (Ow.at_new h_D upd_same)))))))))) h_p_4) (h77 _ _ (ne_of_none (h67 _ _ (Ow.at_mut (ne_of_none upd_same h_D) (h10 _ _ (Ow.at_mut (ne_of_none upd_same h_D) (h7 _ _ (Ow.at_mut (ne_of_none upd_same h_D) (h4 _ _ (Ow.at_mut (ne_of_none upd_same h_D) (h1 _ _ (Ow.at_new h_D upd_same)))))))))) h_p_4) (Ow.at_mut (ne_of_none (h67 _ _ (Ow.at_mut (ne_of_none upd_same h_D) (h10 _ _ (Ow.at_mut (ne_of_none upd_same h_D) (h7 _ _ (Ow.at_mut (ne_of_none upd_same h_D) (h4 _ _ (Ow.at_mut (ne_of_none upd_same h_D) (h1 _ _ (Ow.at_new h_D upd_same)))))))))) h_p_4) (Ow.at_mut (ne_of_none (h67 _ _ (Ow.at_mut (ne_of_none upd_same h_D) (h10 _ _ (Ow.at_mut (ne_of_none upd_same h_D) (h7 _ _ (Ow.at_mut (ne_of_none upd_same h_D) (h4 _ _ (Ow.at_mut (ne_of_none upd_same h_D) (h1 _ _ (Ow.at_new h_D upd_same)))))))))) h_p_4) (Ow.at_mut (ne_of_none (h67 _ _ (Ow.at_mut (ne_of_none upd_same h_D) (h10 _ _ (Ow.at_mut (ne_of_none upd_same h_D) (h7 _ _ (Ow.at_mut (ne_of_none upd_same h_D) (h4 _ _ (Ow.at_mut (ne_of_none upd_same h_D) (h1 _ _ (Ow.at_new h_D upd_same)))))))))) h_p_4) (Ow.at_new h_p_4 (h67 _ _ (Ow.at_mut (ne_of_none upd_same h_D) (h10 _ _ (Ow.at_mut (ne_of_none upd_same h_D) (h7 _ _ (Ow.at_mut (ne_of_none upd_same h_D) (h4 _ _ (Ow.at_mut (ne_of_none upd_same h_D) (h1 _ _ (Ow.at_new h_D upd_same)))))))))))))))))) (by first | assumption | exact Ow.divw64 (by omega) (by omega) | exact Ow.mul0 ⟨by omega, by omega⟩ | exact Ow.mul1 ⟨by omega, by omega⟩ | exact Ow.shl0 (by omega) (by omega) (by omega) | exact ⟨by omega, by omega⟩ | exact ⟨by omega, by omega, by omega⟩ | omega | (simp only [List.length_append, List.length_cons, List.length_nil]; omega) | (subst_vars; omega)) (fun it_7 h_it_7 => ?_)
            refine ⟨_, rfl, ?_⟩
            refine ⟨_, rfl, ?_⟩
            refine ixo_Way T (i := l_at_5) (SqL.of (h81 _ _ (Ow.at_mut (ne_of_none (h67 _ _ upd_same) h_p_4) (h77 _ _ (ne_of_none (h67 _ _ upd_same) h_p_4) (Ow.at_mut (ne_of_none (h67 _ _ upd_same) h_p_4) (Ow.at_mut (ne_of_none (h67 _ _ upd_same) h_p_4) (Ow.at_mut (ne_of_none (h67 _ _ upd_same) h_p_4) (Ow.at_new h_p_4 (h67 _ _ upd_same))))))))) (h81 _ _ (Ow.at_mut (ne_of_none (h67 _ _ (Ow.at_mut (Ow.ne_sym (ne_of_none upd_same h2)) (h10 _ _ (Ow.at_mut (Ow.ne_sym (ne_of_none upd_same h2)) (h7 _ _ (Ow.at_mut (Ow.ne_sym (ne_of_none upd_same h2)) (h4 _ _ (Ow.at_mut (Ow.ne_sym (ne_of_none upd_same h2)) h3)))))))) h_p_4) (h77 _ _ (ne_of_none (h67 _ _ (Ow.at_mut (Ow.ne_sym (ne_of_none upd_same h2)) (h10 _ _ (Ow.at_mut (Ow.ne_sym (ne_of_none upd_same h2)) (h7 _ _ (Ow.at_mut (Ow.ne_sym (ne_of_none upd_same h2)) (h4 _ _ (Ow.at_mut (Ow.ne_sym (ne_of_none upd_same h2)) h3)))))))) h_p_4) (Ow.at_mut (ne_of_none (h67 _ _ (Ow.at_mut (Ow.ne_sym (ne_of_none upd_same h2)) (h10 _ _ (Ow.at_mut (Ow.ne_sym (ne_of_none upd_same h2)) (h7 _ _ (Ow.at_mut (Ow.ne_sym (ne_of_none upd_same h2)) (h4 _ _ (Ow.at_mut (Ow.ne_sym (ne_of_none upd_same h2)) h3)))))))) h_p_4) (Ow.at_mut (ne_of_none (h67 _ _ (Ow.at_mut (Ow.ne_sym (ne_of_none upd_same h2)) (h10 _ _ (Ow.at_mut (Ow.ne_sym (ne_of_none upd_same h2)) (h7 _ _ (Ow.at_mut (Ow.ne_sym (ne_of_none upd_same h2)) (h4 _ _ (Ow.at_mut (Ow.ne_sym (ne_of_none upd_same h2)) h3)))))))) h_p_4) (Ow.at_mut (ne_of_none (h67 _ _ (Ow.at_mut (Ow.ne_sym (ne_of_none upd_same h2)) (h10 _ _ (Ow.at_mut (Ow.ne_sym (ne_of_none upd_same h2)) (h7 _ _ (Ow.at_mut (Ow.ne_sym (ne_of_none upd_same h2)) (h4 _ _ (Ow.at_mut (Ow.ne_sym (ne_of_none upd_same h2)) h3)))))))) h_p_4) (Ow.at_new h_p_4 (h67 _ _ (Ow.at_mut (Ow.ne_sym (ne_of_none upd_same h2)) (h10 _ _ (Ow.at_mut (Ow.ne_sym (ne_of_none upd_same h2)) (h7 _ _ (Ow.at_mut (Ow.ne_sym (ne_of_none upd_same h2)) (h4 _ _ (Ow.at_mut (Ow.ne_sym (ne_of_none upd_same h2)) h3))))))))))))))) (h81 _ _ (Ow.at_mut (ne_of_none (h67 _ _ (Ow.at_mut (Ow.ne_sym (ne_of_none upd_same h5)) (h10 _ _ (Ow.at_mut (Ow.ne_sym (ne_of_none upd_same h5)) (h7 _ _ (Ow.at_mut (Ow.ne_sym (ne_of_none upd_same h5)) h6)))))) h_p_4) (h77 _ _ (ne_of_none (h67 _ _ (Ow.at_mut (Ow.ne_sym (ne_of_none upd_same h5)) (h10 _ _ (Ow.at_mut (Ow.ne_sym (ne_of_none upd_same h5)) (h7 _ _ (Ow.at_mut (Ow.ne_sym (ne_of_none upd_same h5)) h6)))))) h_p_4) (Ow.at_mut (ne_of_none (h67 _ _ (Ow.at_mut (Ow.ne_sym (ne_of_none upd_same h5)) (h10 _ _ (Ow.at_mut (Ow.ne_sym (ne_of_none upd_same h5)) (h7 _ _ (Ow.at_mut (Ow.ne_sym (ne_of_none upd_same h5)) h6)))))) h_p_4) (Ow.at_mut (ne_of_none (h67 _ _ (Ow.at_mut (Ow.ne_sym (ne_of_none upd_same h5)) (h10 _ _ (Ow.at_mut (Ow.ne_sym (ne_of_none upd_same h5)) (h7 _ _ (Ow.at_mut (Ow.ne_sym (ne_of_none upd_same h5)) h6)))))) h_p_4) (Ow.at_mut (ne_of_none (h67 _ _ (Ow.at_mut (Ow.ne_sym (ne_of_none upd_same h5)) (h10 _ _ (Ow.at_mut (Ow.ne_sym (ne_of_none upd_same h5)) (h7 _ _ (Ow.at_mut (Ow.ne_sym (ne_of_none upd_same h5)) h6)))))) h_p_4) (Ow.at_new h_p_4 (h67 _ _ (Ow.at_mut (Ow.ne_sym (ne_of_none upd_same h5)) (h10 _ _ (Ow.at_mut (Ow.ne_sym (ne_of_none upd_same h5)) (h7 _ _ (Ow.at_mut (Ow.ne_sym (ne_of_none upd_same h5)) h6))))))))))))) (h81 _ _ (Ow.at_mut (ne_of_none (h67 _ _ (Ow.at_mut (Ow.ne_sym (ne_of_none upd_same h8)) (h10 _ _ (Ow.at_mut (Ow.ne_sym (ne_of_none upd_same h8)) h9)))) h_p_4) (h77 _ _ (ne_of_none (h67 _ _ (Ow.at_mut (Ow.ne_sym (ne_of_none upd_same h8)) (h10 _ _ (Ow.at_mut (Ow.ne_sym (ne_of_none upd_same h8)) h9)))) h_p_4) (Ow.at_mut (ne_of_none (h67 _ _ (Ow.at_mut (Ow.ne_sym (ne_of_none upd_same h8)) (h10 _ _ (Ow.at_mut (Ow.ne_sym (ne_of_none upd_same h8)) h9)))) h_p_4) (Ow.at_mut (ne_of_none (h67 _ _ (Ow.at_mut (Ow.ne_sym (ne_of_none upd_same h8)) (h10 _ _ (Ow.at_mut (Ow.ne_sym (ne_of_none upd_same h8)) h9)))) h_p_4) (Ow.at_mut (ne_of_none (h67 _ _ (Ow.at_mut (Ow.ne_sym (ne_of_none upd_same h8)) (h10 _ _ (Ow.at_mut (Ow.ne_sym (ne_of_none upd_same h8)) h9)))) h_p_4) (Ow.at_new h_p_4 (h67 _ _ (Ow.at_mut (Ow.ne_sym (ne_of_none upd_same h8)) (h10 _ _ (Ow.at_mut (Ow.ne_sym (ne_of_none upd_same h8)) h9))))))))))) (h81 _ _ (Ow.at_mut (ne_of_none (h67 _ _ (Ow.at_mut (Ow.ne_sym (ne_of_none upd_same h11)) h12)) h_p_4) (h77 _ _ (ne_of_none (h67 _ _ (Ow.at_mut (Ow.ne_sym (ne_of_none upd_same h11)) h12)) h_p_4) (Ow.at_mut (ne_of_none (h67 _ _ (Ow.at_mut (Ow.ne_sym (ne_of_none upd_same h11)) h12)) h_p_4) (Ow.at_mut (ne_of_none (h67 _ _ (Ow.at_mut (Ow.ne_sym (ne_of_none upd_same h11)) h12)) h_p_4) (Ow.at_mut (ne_of_none (h67 _ _ (Ow.at_mut (Ow.ne_sym (ne_of_none upd_same h11)) h12)) h_p_4) (Ow.at_new h_p_4 (h67 _ _ (Ow.at_mut (Ow.ne_sym (ne_of_none upd_same h11)) h12))))))))) (by first | assumption | exact Ow.divw64 (by omega) (by omega) | exact Ow.mul0 ⟨by omega, by omega⟩ | exact Ow.mul1 ⟨by omega, by omega⟩ | exact Ow.shl0 (by omega) (by omega) (by omega) | exact ⟨by omega, by omega⟩ | exact ⟨by omega, by omega, by omega⟩ | omega | (simp only [List.length_append, List.length_cons, List.length_nil]; omega) | (subst_vars; omega)) (fun wy_7 o_15 dx_15 h_wy_7 h_o_15 => ?_)
            have hw_wy_7 : it_7 = Ow.wrd_Way wy_7 := by rcases h_it_7 with ⟨hz, rfl⟩ | ⟨hz, rfl⟩ | ⟨hz, rfl⟩ | ⟨hz, rfl⟩ <;> cases wy_7 <;> first | rfl | (exfalso; simp only [ix_Way] at h_wy_7; omega)
            refine ⟨_, rfl, ?_⟩
            refine ⟨_, rfl, ?_⟩
            refine ⟨_, rfl, ?_⟩
            refine ⟨_, rfl, ?_⟩
            refine ⟨_, rfl, ?_⟩
            refine ⟨_, _, rfl, rfl, ?_⟩
            refine ⟨_, _, rfl, rfl, (by first | assumption | exact Ow.divw64 (by omega) (by omega) | exact Ow.mul0 ⟨by omega, by omega⟩ | exact Ow.mul1 ⟨by omega, by omega⟩ | exact Ow.shl0 (by omega) (by omega) (by omega) | exact ⟨by omega, by omega⟩ | exact ⟨by omega, by omega, by omega⟩ | omega | (simp only [List.length_append, List.length_cons, List.length_nil]; omega) | (subst_vars; omega)), fun r_4 h_r_4 h0_r_4 h1_r_4 => ?_⟩
            refine ⟨_, _, rfl, rfl, ?_⟩
            refine ⟨_, _, _, _, _, _, wy_7, _, rfl, (by first | assumption | exact Ow.divw64 (by omega) (by omega) | exact Ow.mul0 ⟨by omega, by omega⟩ | exact Ow.mul1 ⟨by omega, by omega⟩ | exact Ow.shl0 (by omega) (by omega) (by omega) | exact ⟨by omega, by omega⟩ | exact ⟨by omega, by omega, by omega⟩ | omega | (simp only [List.length_append, List.length_cons, List.length_nil]; omega) | (subst_vars; omega)), h_o_15, (by first | assumption | exact Ow.divw64 (by omega) (by omega) | exact Ow.mul0 ⟨by omega, by omega⟩ | exact Ow.mul1 ⟨by omega, by omega⟩ | exact Ow.shl0 (by omega) (by omega) (by omega) | exact ⟨by omega, by omega⟩ | exact ⟨by omega, by omega, by omega⟩ | omega | (simp only [List.length_append, List.length_cons, List.length_nil]; omega) | (subst_vars; omega)), (by first | assumption | exact Ow.divw64 (by omega) (by omega) | exact Ow.mul0 ⟨by omega, by omega⟩ | exact Ow.mul1 ⟨by omega, by omega⟩ | exact Ow.shl0 (by omega) (by omega) (by omega) | exact ⟨by omega, by omega⟩ | exact ⟨by omega, by omega, by omega⟩ | omega | (simp only [List.length_append, List.length_cons, List.length_nil]; omega) | (subst_vars; omega)), (by first | assumption | exact Ow.divw64 (by omega) (by omega) | exact Ow.mul0 ⟨by omega, by omega⟩ | exact Ow.mul1 ⟨by omega, by omega⟩ | exact Ow.shl0 (by omega) (by omega) (by omega) | exact ⟨by omega, by omega⟩ | exact ⟨by omega, by omega, by omega⟩ | omega | (simp only [List.length_append, List.length_cons, List.length_nil]; omega) | (subst_vars; omega)), (Ow.Sz.mono (Ow.Sz.abs h73 h_ab_5) (by decide : 2340 ≤ 2350)), h76, (Ow.Sz.mono z_l_divisor_2 (by decide : 5 ≤ 2340)), fun Hn_22 h83 => ?_⟩
            refine ⟨_, rfl, ?_⟩
            refine iteF ?_
            refine ⟨_, rfl, ?_⟩
            refine ⟨_, _, rfl, rfl, (.inr (Ow.mulx (Ow.Sz.lit (n := 3) (i := 7) (by decide)) (Ow.Sz.rng (n := 4) h79 h80 (by decide)) (by decide))), fun m_7 h_m_7 => ?_⟩
            have z_m_7 : Ow.Sz 7 m_7 := by rw [h_m_7]; exact (Ow.Sz.mul (Ow.Sz.lit (n := 3) (i := 7) (by decide)) (Ow.Sz.rng (n := 4) h79 h80 (by decide)))
            refine ⟨_, rfl, ?_⟩
            refine ⟨_, _, rfl, rfl, ?_⟩
            refine ⟨_, rfl, fun l_top_3 h_l_top_3 => ?_⟩
            have z_l_top_3 : Ow.Sz 8 l_top_3 := by rw [h_l_top_3]; exact (Ow.Sz.add z_m_7 (Ow.Sz.mono z_l_j_3 (by decide : 4 ≤ 7)))
            refine ⟨_, rfl, ?_⟩
            refine ⟨_, _, rfl, rfl, ?_⟩
            refine ⟨_, rfl, ?_⟩
            refine Ow.ifd (fun h84 => ?_) (fun h84 => ?_)
            · refine ⟨_, rfl, ?_⟩
              refine ⟨_, rfl, ?_⟩
              refine Ow.ixs4 (SqL.of (h83 _ _ (h81 _ _ (Ow.at_mut (ne_of_none (h67 _ _ (Ow.at_mut (ne_of_none upd_same h_D) (h10 _ _ (Ow.at_mut (ne_of_none upd_same h_D) (h7 _ _ (Ow.at_mut (ne_of_none upd_same h_D) (h4 _ _ (Ow.at_mut (ne_of_none upd_same h_D) (h1 _ _ (Ow.at_new h_D upd_same)))))))))) h_p_4) (h77 _ _ (ne_of_none (h67 _ _ (Ow.at_mut (ne_of_none upd_same h_D) (h10 _ _ (Ow.at_mut (ne_of_none upd_same h_D) (h7 _ _ (Ow.at_mut (ne_of_none upd_same h_D) (h4 _ _ (Ow.at_mut (ne_of_none upd_same h_D) (h1 _ _ (Ow.at_new h_D upd_same)))))))))) h_p_4) (Ow.at_mut (ne_of_none (h67 _ _ (Ow.at_mut (ne_of_none upd_same h_D) (h10 _ _ (Ow.at_mut (ne_of_none upd_same h_D) (h7 _ _ (Ow.at_mut (ne_of_none upd_same h_D) (h4 _ _ (Ow.at_mut (ne_of_none upd_same h_D) (h1 _ _ (Ow.at_new h_D upd_same)))))))))) h_p_4) (Ow.at_mut (ne_of_none (h67 _ _ (Ow.at_mut (ne_of_none upd_same h_D) (h10 _ _ (Ow.at_mut (ne_of_none upd_same h_D) (h7 _ _ (Ow.at_mut (ne_of_none upd_same h_D) (h4 _ _ (Ow.at_mut (ne_of_none upd_same h_D) (h1 _ _ (Ow.at_new h_D upd_same)))))))))) h_p_4) (Ow.at_mut (ne_of_none (h67 _ _ (Ow.at_mut (ne_of_none upd_same h_D) (h10 _ _ (Ow.at_mut (ne_of_none upd_same h_D) (h7 _ _ (Ow.at_mut (ne_of_none upd_same h_D) (h4 _ _ (Ow.at_mut (ne_of_none upd_same h_D) (h1 _ _ (Ow.at_new h_D upd_same)))))))))) h_p_4) (Ow.at_new h_p_4 (h67 _ _ (Ow.at_mut (ne_of_none upd_same h_D) (h10 _ _ (Ow.at_mut (ne_of_none upd_same h_D) (h7 _ _ (Ow.at_mut (ne_of_none upd_same h_D) (h4 _ _ (Ow.at_mut (ne_of_none upd_same h_D) (h1 _ _ (Ow.at_new h_D upd_same))))))))))))))))))) (by first | assumption | exact Ow.divw64 (by omega) (by omega) | exact Ow.mul0 ⟨by omega, by omega⟩ | exact Ow.mul1 ⟨by omega, by omega⟩ | exact Ow.shl0 (by omega) (by omega) (by omega) | exact ⟨by omega, by omega⟩ | exact ⟨by omega, by omega, by omega⟩ | omega | (simp only [List.length_append, List.length_cons, List.length_nil]; omega) | (subst_vars; omega)) (fun it_8 h_it_8 => ?_)
              refine ⟨_, rfl, ?_⟩
              refine ⟨_, rfl, ?_⟩
              refine ⟨_, rfl, ?_⟩
              refine ixo_Way T (i := l_at_5) (SqL.of (h83 _ _ (h81 _ _ (Ow.at_mut (ne_of_none (h67 _ _ upd_same) h_p_4) (h77 _ _ (ne_of_none (h67 _ _ upd_same) h_p_4) (Ow.at_mut (ne_of_none (h67 _ _ upd_same) h_p_4) (Ow.at_mut (ne_of_none (h67 _ _ upd_same) h_p_4) (Ow.at_mut (ne_of_none (h67 _ _ upd_same) h_p_4) (Ow.at_new h_p_4 (h67 _ _ upd_same)))))))))) (h83 _ _ (h81 _ _ (Ow.at_mut (ne_of_none (h67 _ _ (Ow.at_mut (Ow.ne_sym (ne_of_none upd_same h2)) (h10 _ _ (Ow.at_mut (Ow.ne_sym (ne_of_none upd_same h2)) (h7 _ _ (Ow.at_mut (Ow.ne_sym (ne_of_none upd_same h2)) (h4 _ _ (Ow.at_mut (Ow.ne_sym (ne_of_none upd_same h2)) h3)))))))) h_p_4) (h77 _ _ (ne_of_none (h67 _ _ (Ow.at_mut (Ow.ne_sym (ne_of_none upd_same h2)) (h10 _ _ (Ow.at_mut (Ow.ne_sym (ne_of_none upd_same h2)) (h7 _ _ (Ow.at_mut (Ow.ne_sym (ne_of_none upd_same h2)) (h4 _ _ (Ow.at_mut (Ow.ne_sym (ne_of_none upd_same h2)) h3)))))))) h_p_4) (Ow.at_mut (ne_of_none (h67 _ _ (Ow.at_mut (Ow.ne_sym (ne_of_none upd_same h2)) (h10 _ _ (Ow.at_mut (Ow.ne_sym (ne_of_none upd_same h2)) (h7 _ _ (Ow.at_mut (Ow.ne_sym (ne_of_none upd_same h2)) (h4 _ _ (Ow.at_mut (Ow.ne_sym (ne_of_none upd_same h2)) h3)))))))) h_p_4) (Ow.at_mut (ne_of_none (h67 _ _ (Ow.at_mut (Ow.ne_sym (ne_of_none upd_same h2)) (h10 _ _ (Ow.at_mut (Ow.ne_sym (ne_of_none upd_same h2)) (h7 _ _ (Ow.at_mut (Ow.ne_sym (ne_of_none upd_same h2)) (h4 _ _ (Ow.at_mut (Ow.ne_sym (ne_of_none upd_same h2)) h3)))))))) h_p_4) (Ow.at_mut (ne_of_none (h67 _ _ (Ow.at_mut (Ow.ne_sym (ne_of_none upd_same h2)) (h10 _ _ (Ow.at_mut (Ow.ne_sym (ne_of_none upd_same h2)) (h7 _ _ (Ow.at_mut (Ow.ne_sym (ne_of_none upd_same h2)) (h4 _ _ (Ow.at_mut (Ow.ne_sym (ne_of_none upd_same h2)) h3)))))))) h_p_4) (Ow.at_new h_p_4 (h67 _ _ (Ow.at_mut (Ow.ne_sym (ne_of_none upd_same h2)) (h10 _ _ (Ow.at_mut (Ow.ne_sym (ne_of_none upd_same h2)) (h7 _ _ (Ow.at_mut (Ow.ne_sym (ne_of_none upd_same h2)) (h4 _ _ (Ow.at_mut (Ow.ne_sym (ne_of_none upd_same h2)) h3)))))))))))))))) (h83 _ _ (h81 _ _ (Ow.at_mut (ne_of_none (h67 _ _ (Ow.at_mut (Ow.ne_sym (ne_of_none upd_same h5)) (h10 _ _ (Ow.at_mut (Ow.ne_sym (ne_of_none upd_same h5)) (h7 _ _ (Ow.at_mut (Ow.ne_sym (ne_of_none upd_same h5)) h6)))))) h_p_4) (h77 _ _ (ne_of_none (h67 _ _ (Ow.at_mut (Ow.ne_sym (ne_of_none upd_same h5)) (h10 _ _ (Ow.at_mut (Ow.ne_sym (ne_of_none upd_same h5)) (h7 _ _ (Ow.at_mut (Ow.ne_sym (ne_of_none upd_same h5)) h6)))))) h_p_4) (Ow.at_mut (ne_of_none (h67 _ _ (Ow.at_mut (Ow.ne_sym (ne_of_none upd_same h5)) (h10 _ _ (Ow.at_mut (Ow.ne_sym (ne_of_none upd_same h5)) (h7 _ _ (Ow.at_mut (Ow.ne_sym (ne_of_none upd_same h5)) h6)))))) h_p_4) (Ow.at_mut (ne_of_none (h67 _ _ (Ow.at_mut (Ow.ne_sym (ne_of_none upd_same h5)) (h10 _ _ (Ow.at_mut (Ow.ne_sym (ne_of_none upd_same h5)) (h7 _ _ (Ow.at_mut (Ow.ne_sym (ne_of_none upd_same h5)) h6)))))) h_p_4) (Ow.at_mut (ne_of_none (h67 _ _ (Ow.at_mut (Ow.ne_sym (ne_of_none upd_same h5)) (h10 _ _ (Ow.at_mut (Ow.ne_sym (ne_of_none upd_same h5)) (h7 _ _ (Ow.at_mut (Ow.ne_sym (ne_of_none upd_same h5)) h6)))))) h_p_4) (Ow.at_new h_p_4 (h67 _ _ (Ow.at_mut (Ow.ne_sym (ne_of_none upd_same h5)) (h10 _ _ (Ow.at_mut (Ow.ne_sym (ne_of_none upd_same h5)) (h7 _ _ (Ow.at_mut (Ow.ne_sym (ne_of_none upd_same h5)) h6)))))))))))))) (h83 _ _ (h81 _ _ (Ow.at_mut (ne_of_none (h67 _ _ (Ow.at_mut (Ow.ne_sym (ne_of_none upd_same h8)) (h10 _ _ (Ow.at_mut (Ow.ne_sym (ne_of_none upd_same h8)) h9)))) h_p_4) (h77 _ _ (ne_of_none (h67 _ _ (Ow.at_mut (Ow.ne_sym (ne_of_none upd_same h8)) (h10 _ _ (Ow.at_mut (Ow.ne_sym (ne_of_none upd_same h8)) h9)))) h_p_4) (Ow.at_mut (ne_of_none (h67 _ _ (Ow.at_mut (Ow.ne_sym (ne_of_none upd_same h8)) (h10 _ _ (Ow.at_mut (Ow.ne_sym (ne_of_none upd_same h8)) h9)))) h_p_4) (Ow.at_mut (ne_of_none (h67 _ _ (Ow.at_mut (Ow.ne_sym (ne_of_none upd_same h8)) (h10 _ _ (Ow.at_mut (Ow.ne_sym (ne_of_none upd_same h8)) h9)))) h_p_4) (Ow.at_mut (ne_of_none (h67 _ _ (Ow.at_mut (Ow.ne_sym (ne_of_none upd_same h8)) (h10 _ _ (Ow.at_mut (Ow.ne_sym (ne_of_none upd_same h8)) h9)))) h_p_4) (Ow.at_new h_p_4 (h67 _ _ (Ow.at_mut (Ow.ne_sym (ne_of_none upd_same h8)) (h10 _ _ (Ow.at_mut (Ow.ne_sym (ne_of_none upd_same h8)) h9)))))))))))) (h83 _ _ (h81 _ _ (Ow.at_mut (ne_of_none (h67 _ _ (Ow.at_mut (Ow.ne_sym (ne_of_none upd_same h11)) h12)) h_p_4) (h77 _ _ (ne_of_none (h67 _ _ (Ow.at_mut (Ow.ne_sym (ne_of_none upd_same h11)) h12)) h_p_4) (Ow.at_mut (ne_of_none (h67 _ _ (Ow.at_mut (Ow.ne_sym (ne_of_none upd_same h11)) h12)) h_p_4) (Ow.at_mut (ne_of_none (h67 _ _ (Ow.at_mut (Ow.ne_sym (ne_of_none upd_same h11)) h12)) h_p_4) (Ow.at_mut (ne_of_none (h67 _ _ (Ow.at_mut (Ow.ne_sym (ne_of_none upd_same h11)) h12)) h_p_4) (Ow.at_new h_p_4 (h67 _ _ (Ow.at_mut (Ow.ne_sym (ne_of_none upd_same h11)) h12)))))))))) (by first | assumption | exact Ow.divw64 (by omega) (by omega) | exact Ow.mul0 ⟨by omega, by omega⟩ | exact Ow.mul1 ⟨by omega, by omega⟩ | exact Ow.shl0 (by omega) (by omega) (by omega) | exact ⟨by omega, by omega⟩ | exact ⟨by omega, by omega, by omega⟩ | omega | (simp only [List.length_append, List.length_cons, List.length_nil]; omega) | (subst_vars; omega)) (fun wy_8 o_16 dx_16 h_wy_8 h_o_16 => ?_)
              have hw_wy_8 : it_8 = Ow.wrd_Way wy_8 := by rcases h_it_8 with ⟨hz, rfl⟩ | ⟨hz, rfl⟩ | ⟨hz, rfl⟩ | ⟨hz, rfl⟩ <;> cases wy_8 <;> first | rfl | (exfalso; simp only [ix_Way] at h_wy_8; omega)
              refine ⟨_, _, _, Ow.cls_Way T wy_8, sp_Way_rounded T, rfl, (by cases wy_8 <;> first | exact .inl ⟨rfl, rfl⟩ | exact .inr (.inl ⟨rfl, rfl⟩) | exact .inr (.inr (.inl ⟨rfl, rfl⟩)) | exact .inr (.inr (.inr (⟨rfl, rfl⟩)))), h_o_16, rfl, ?_⟩
              refine ⟨_, rfl, ?_⟩
              refine ⟨_, _, _, wy_8, _, rfl, h_o_16, (Ow.Sz.mono z_l_top_3 (by decide : 8 ≤ 4000)), (by first | assumption | exact Ow.divw64 (by omega) (by omega) | exact Ow.mul0 ⟨by omega, by omega⟩ | exact Ow.mul1 ⟨by omega, by omega⟩ | exact Ow.shl0 (by omega) (by omega) (by omega) | exact ⟨by omega, by omega⟩ | exact ⟨by omega, by omega, by omega⟩ | omega | (simp only [List.length_append, List.length_cons, List.length_nil]; omega) | (subst_vars; omega)), (Ow.Sz.mono (Ow.Sz.lit (n := 3) (i := 4) (by decide)) (by decide : 3 ≤ 4000)), fun t_13 h85 h86 Hn_23 h87 => ?_⟩
              refine ⟨_, _, _, _, _, rfl, (by first | assumption | exact Ow.divw64 (by omega) (by omega) | exact Ow.mul0 ⟨by omega, by omega⟩ | exact Ow.mul1 ⟨by omega, by omega⟩ | exact Ow.shl0 (by omega) (by omega) (by omega) | exact ⟨by omega, by omega⟩ | exact ⟨by omega, by omega, by omega⟩ | omega | (simp only [List.length_append, List.length_cons, List.length_nil]; omega) | (subst_vars; omega) | (subst_vars; exact Ow.lies (by omega))), (by first | assumption | exact Ow.divw64 (by omega) (by omega) | exact Ow.mul0 ⟨by omega, by omega⟩ | exact Ow.mul1 ⟨by omega, by omega⟩ | exact Ow.shl0 (by omega) (by omega) (by omega) | exact ⟨by omega, by omega⟩ | exact ⟨by omega, by omega, by omega⟩ | omega | (simp only [List.length_append, List.length_cons, List.length_nil]; omega) | (subst_vars; omega) | (subst_vars; exact Ow.lies (by omega))), (by first | assumption | exact Ow.divw64 (by omega) (by omega) | exact Ow.mul0 ⟨by omega, by omega⟩ | exact Ow.mul1 ⟨by omega, by omega⟩ | exact Ow.shl0 (by omega) (by omega) (by omega) | exact ⟨by omega, by omega⟩ | exact ⟨by omega, by omega, by omega⟩ | omega | (simp only [List.length_append, List.length_cons, List.length_nil]; omega) | (subst_vars; omega) | (subst_vars; exact Ow.lies (by omega))), (Ow.Sz.mono z_l_top_3 (by decide : 8 ≤ 6000)), (Ow.Sz.mono (Ow.Sz.lit (n := 3) (i := 4) (by decide)) (by decide : 3 ≤ 6000)), (Ow.Sz.mono h86 (by decide : 4002 ≤ 6000)), ?_⟩
              refine ⟨_, rfl, ?_⟩
              refine iteF ?_
              exact ⟨_, _, _, _, rfl, ((h81.trans h83).trans h87)⟩
            · refine iteF ?_
              exact ⟨_, _, _, _, rfl, (h81.trans h83)⟩
          · rintro _ Hn_24 ⟨_, _, _, _, rfl, h88⟩
            refine ⟨_, rfl, ?_⟩
            refine ⟨_, _, rfl, rfl, (by first | assumption | exact Ow.divw64 (by omega) (by omega) | exact Ow.mul0 ⟨by omega, by omega⟩ | exact Ow.mul1 ⟨by omega, by omega⟩ | exact Ow.shl0 (by omega) (by omega) (by omega) | exact ⟨by omega, by omega⟩ | exact ⟨by omega, by omega, by omega⟩ | omega | (simp only [List.length_append, List.length_cons, List.length_nil]; omega) | (subst_vars; omega)), fun l_at_6 h_l_at_6 h0_l_at_6 h1_l_at_6 => ?_⟩
            refine ⟨_, rfl, ?_⟩
            refine ⟨_, rfl, ?_⟩
            refine Ow.ixs4 (SqL.of (h88 _ _ (Ow.at_mut (ne_of_none (h67 _ _ (Ow.at_mut (ne_of_none upd_same h_D) (h10 _ _ (Ow.at_mut (ne_of_none upd_same h_D) (h7 _ _ (Ow.at_mut (ne_of_none upd_same h_D) (h4 _ _ (Ow.at_mut (ne_of_none upd_same h_D) (h1 _ _ (Ow.at_new h_D upd_same)))))))))) h_p_4) (h77 _ _ (ne_of_none (h67 _ _ (Ow.at_mut (ne_of_none upd_same h_D) (h10 _ _ (Ow.at_mut (ne_of_none upd_same h_D) (h7 _ _ (Ow.at_mut (ne_of_none upd_same h_D) (h4 _ _ (Ow.at_mut (ne_of_none upd_same h_D) (h1 _ _ (Ow.at_new h_D upd_same)))))))))) h_p_4) (Ow.at_mut (ne_of_none (h67 _ _ (Ow.at_mut (ne_of_none upd_same h_D) (h10 _ _ (Ow.at_mut (ne_of_none upd_same h_D) (h7 _ _ (Ow.at_mut (ne_of_none upd_same h_D) (h4 _ _ (Ow.at_mut (ne_of_none upd_same h_D) (h1 _ _ (Ow.at_new h_D upd_same)))))))))) h_p_4) (Ow.at_mut (ne_of_none (h67 _ _ (Ow.at_mut (ne_of_none upd_same h_D) (h10 _ _ (Ow.at_mut (ne_of_none upd_same h_D) (h7 _ _ (Ow.at_mut (ne_of_none upd_same h_D) (h4 _ _ (Ow.at_mut (ne_of_none upd_same h_D) (h1 _ _ (Ow.at_new h_D upd_same)))))))))) h_p_4) (Ow.at_mut (ne_of_none (h67 _ _ (Ow.at_mut (ne_of_none upd_same h_D) (h10 _ _ (Ow.at_mut (ne_of_none upd_same h_D) (h7 _ _ (Ow.at_mut (ne_of_none upd_same h_D) (h4 _ _ (Ow.at_mut (ne_of_none upd_same h_D) (h1 _ _ (Ow.at_new h_D upd_same)))))))))) h_p_4) (Ow.at_new h_p_4 (h67 _ _ (Ow.at_mut (ne_of_none upd_same h_D) (h10 _ _ (Ow.at_mut (ne_of_none upd_same h_D) (h7 _ _ (Ow.at_mut (ne_of_none upd_same h_D) (h4 _ _ (Ow.at_mut (ne_of_none upd_same h_D) (h1 _ _ (Ow.at_new h_D upd_same)))))))))))))))))) (by first | assumption | exact Ow.divw64 (by omega) (by omega) | exact Ow.mul0 ⟨by omega, by omega⟩ | exact Ow.mul1 ⟨by omega, by omega⟩ | exact Ow.shl0 (by omega) (by omega) (by omega) | exact ⟨by omega, by omega⟩ | exact ⟨by omega, by omega, by omega⟩ | omega | (simp only [List.length_append, List.length_cons, List.length_nil]; omega) | (subst_vars; omega)) (fun it_9 h_it_9 => ?_)
            refine ⟨_, rfl, ?_⟩
            refine ⟨_, rfl, ?_⟩
            refine ixo_Way T (i := l_at_6) (SqL.of (h88 _ _ (Ow.at_mut (ne_of_none (h67 _ _ upd_same) h_p_4) (h77 _ _ (ne_of_none (h67 _ _ upd_same) h_p_4) (Ow.at_mut (ne_of_none (h67 _ _ upd_same) h_p_4) (Ow.at_mut (ne_of_none (h67 _ _ upd_same) h_p_4) (Ow.at_mut (ne_of_none (h67 _ _ upd_same) h_p_4) (Ow.at_new h_p_4 (h67 _ _ upd_same))))))))) (h88 _ _ (Ow.at_mut (ne_of_none (h67 _ _ (Ow.at_mut (Ow.ne_sym (ne_of_none upd_same h2)) (h10 _ _ (Ow.at_mut (Ow.ne_sym (ne_of_none upd_same h2)) (h7 _ _ (Ow.at_mut (Ow.ne_sym (ne_of_none upd_same h2)) (h4 _ _ (Ow.at_mut (Ow.ne_sym (ne_of_none upd_same h2)) h3)))))))) h_p_4) (h77 _ _ (ne_of_none (h67 _ _ (Ow.at_mut (Ow.ne_sym (ne_of_none upd_same h2)) (h10 _ _ (Ow.at_mut (Ow.ne_sym (ne_of_none upd_same h2)) (h7 _ _ (Ow.at_mut (Ow.ne_sym (ne_of_none upd_same h2)) (h4 _ _ (Ow.at_mut (Ow.ne_sym (ne_of_none upd_same h2)) h3)))))))) h_p_4) (Ow.at_mut (ne_of_none (h67 _ _ (Ow.at_mut (Ow.ne_sym (ne_of_none upd_same h2)) (h10 _ _ (Ow.at_mut (Ow.ne_sym (ne_of_none upd_same h2)) (h7 _ _ (Ow.at_mut (Ow.ne_sym (ne_of_none upd_same h2)) (h4 _ _ (Ow.at_mut (Ow.ne_sym (ne_of_none upd_same h2)) h3)))))))) h_p_4) (Ow.at_mut (ne_of_none (h67 _ _ (Ow.at_mut (Ow.ne_sym (ne_of_none upd_same h2)) (h10 _ _ (Ow.at_mut (Ow.ne_sym (ne_of_none upd_same h2)) (h7 _ _ (Ow.at_mut (Ow.ne_sym (ne_of_none upd_same h2)) (h4 _ _ (Ow.at_mut (Ow.ne_sym (ne_of_none upd_same h2)) h3)))))))) h_p_4) (Ow.at_mut (ne_of_none (h67 _ _ (Ow.at_mut (Ow.ne_sym (ne_of_none upd_same h2)) (h10 _ _ (Ow.at_mut (Ow.ne_sym (ne_of_none upd_same h2)) (h7 _ _ (Ow.at_mut (Ow.ne_sym (ne_of_none upd_same h2)) (h4 _ _ (Ow.at_mut (Ow.ne_sym (ne_of_none upd_same h2)) h3)))))))) h_p_4) (Ow.at_new h_p_4 (h67 _ _ (Ow.at_mut (Ow.ne_sym (ne_of_none upd_same h2)) (h10 _ _ (Ow.at_mut (Ow.ne_sym (ne_of_none upd_same h2)) (h7 _ _ (Ow.at_mut (Ow.ne_sym (ne_of_none upd_same h2)) (h4 _ _ (Ow.at_mut (Ow.ne_sym (ne_of_none upd_same h2)) h3))))))))))))))) (h88 _ _ (Ow.at_mut (ne_of_none (h67 _ _ (Ow.at_mut (Ow.ne_sym (ne_of_none upd_same h5)) (h10 _ _ (Ow.at_mut (Ow.ne_sym (ne_of_none upd_same h5)) (h7 _ _ (Ow.at_mut (Ow.ne_sym (ne_of_none upd_same h5)) h6)))))) h_p_4) (h77 _ _ (ne_of_none (h67 _ _ (Ow.at_mut (Ow.ne_sym (ne_of_none upd_same h5)) (h10 _ _ (Ow.at_mut (Ow.ne_sym (ne_of_none upd_same h5)) (h7 _ _ (Ow.at_mut (Ow.ne_sym (ne_of_none upd_same h5)) h6)))))) h_p_4) (Ow.at_mut (ne_of_none (h67 _ _ (Ow.at_mut (Ow.ne_sym (ne_of_none upd_same h5)) (h10 _ _ (Ow.at_mut (Ow.ne_sym (ne_of_none upd_same h5)) (h7 _ _ (Ow.at_mut (Ow.ne_sym (ne_of_none upd_same h5)) h6)))))) h_p_4) (Ow.at_mut (ne_of_none (h67 _ _ (Ow.at_mut (Ow.ne_sym (ne_of_none upd_same h5)) (h10 _ _ (Ow.at_mut (Ow.ne_sym (ne_of_none upd_same h5)) (h7 _ _ (Ow.at_mut (Ow.ne_sym (ne_of_none upd_same h5)) h6)))))) h_p_4) (Ow.at_mut (ne_of_none (h67 _ _ (Ow.at_mut (Ow.ne_sym (ne_of_none upd_same h5)) (h10 _ _ (Ow.at_mut (Ow.ne_sym (ne_of_none upd_same h5)) (h7 _ _ (Ow.at_mut (Ow.ne_sym (ne_of_none upd_same h5)) h6)))))) h_p_4) (Ow.at_new h_p_4 (h67 _ _ (Ow.at_mut (Ow.ne_sym (ne_of_none upd_same h5)) (h10 _ _ (Ow.at_mut (Ow.ne_sym (ne_of_none upd_same h5)) (h7 _ _ (Ow.at_mut (Ow.ne_sym (ne_of_none upd_same h5)) h6))))))))))))) (h88 _ _ (Ow.at_mut (ne_of_none (h67 _ _ (Ow.at_mut (Ow.ne_sym (ne_of_none upd_same h8)) (h10 _ _ (Ow.at_mut (Ow.ne_sym (ne_of_none upd_same h8)) h9)))) h_p_4) (h77 _ _ (ne_of_none (h67 _ _ (Ow.at_mut (Ow.ne_sym (ne_of_none upd_same h8)) (h10 _ _ (Ow.at_mut (Ow.ne_sym (ne_of_none upd_same h8)) h9)))) h_p_4) (Ow.at_mut (ne_of_none (h67 _ _ (Ow.at_mut (Ow.ne_sym (ne_of_none upd_same h8)) (h10 _ _ (Ow.at_mut (Ow.ne_sym (ne_of_none upd_same h8)) h9)))) h_p_4) (Ow.at_mut (ne_of_none (h67 _ _ (Ow.at_mut (Ow.ne_sym (ne_of_none upd_same h8)) (h10 _ _ (Ow.at_mut (Ow.ne_sym (ne_of_none upd_same h8)) h9)))) h_p_4) (Ow.at_mut (ne_of_none (h67 _ _ (Ow.at_mut (Ow.ne_sym (ne_of_none upd_same h8)) (h10 _ _ (Ow.at_mut (Ow.ne_sym (ne_of_none upd_same h8)) h9)))) h_p_4) (Ow.at_new h_p_4 (h67 _ _ (Ow.at_mut (Ow.ne_sym (ne_of_none upd_same h8)) (h10 _ _ (Ow.at_mut (Ow.ne_sym (ne_of_none upd_same h8)) h9))))))))))) (h88 _ _ (Ow.at_mut (ne_of_none (h67 _ _ (Ow.at_mut (Ow.ne_sym (ne_of_none upd_same h11)) h12)) h_p_4) (h77 _ _ (ne_of_none (h67 _ _ (Ow.at_mut (Ow.ne_sym (ne_of_none upd_same h11)) h12)) h_p_4) (Ow.at_mut (ne_of_none (h67 _ _ (Ow.at_mut (Ow.ne_sym (ne_of_none upd_same h11)) h12)) h_p_4) (Ow.at_mut (ne_of_none (h67 _ _ (Ow.at_mut (Ow.ne_sym (ne_of_none upd_same h11)) h12)) h_p_4) (Ow.at_mut (ne_of_none (h67 _ _ (Ow.at_mut (Ow.ne_sym (ne_of_none upd_same h11)) h12)) h_p_4) (Ow.at_new h_p_4 (h67 _ _ (Ow.at_mut (Ow.ne_sym (ne_of_none upd_same h11)) h12))))))))) (by first | assumption | exact Ow.divw64 (by omega) (by omega) | exact Ow.mul0 ⟨by omega, by omega⟩ | exact Ow.mul1 ⟨by omega, by omega⟩ | exact Ow.shl0 (by omega) (by omega) (by omega) | exact ⟨by omega, by omega⟩ | exact ⟨by omega, by omega, by omega⟩ | omega | (simp only [List.length_append, List.length_cons, List.length_nil]; omega) | (subst_vars; omega)) (fun wy_9 o_17 dx_17 h_wy_9 h_o_17 => ?_)
            have hw_wy_9 : it_9 = Ow.wrd_Way wy_9 := by rcases h_it_9 with ⟨hz, rfl⟩ | ⟨hz, rfl⟩ | ⟨hz, rfl⟩ | ⟨hz, rfl⟩ <;> cases wy_9 <;> first | rfl | (exfalso; simp only [ix_Way] at h_wy_9; omega)
            refine ⟨_, rfl, ?_⟩
            refine ⟨_, _, rfl, rfl, ?_⟩
            refine ⟨_, rfl, ?_⟩
            refine ⟨_, rfl, ?_⟩
            refine ⟨_, rfl, ?_⟩
            refine ⟨_, _, rfl, rfl, ?_⟩
            refine ⟨_, _, _, _, _, _, wy_9, _, rfl, (by first | assumption | exact Ow.divw64 (by omega) (by omega) | exact Ow.mul0 ⟨by omega, by omega⟩ | exact Ow.mul1 ⟨by omega, by omega⟩ | exact Ow.shl0 (by omega) (by omega) (by omega) | exact ⟨by omega, by omega⟩ | exact ⟨by omega, by omega, by omega⟩ | omega | (simp only [List.length_append, List.length_cons, List.length_nil]; omega) | (subst_vars; omega)), h_o_17, (by first | assumption | exact Ow.divw64 (by omega) (by omega) | exact Ow.mul0 ⟨by omega, by omega⟩ | exact Ow.mul1 ⟨by omega, by omega⟩ | exact Ow.shl0 (by omega) (by omega) (by omega) | exact ⟨by omega, by omega⟩ | exact ⟨by omega, by omega, by omega⟩ | omega | (simp only [List.length_append, List.length_cons, List.length_nil]; omega) | (subst_vars; omega)), (by first | assumption | exact Ow.divw64 (by omega) (by omega) | exact Ow.mul0 ⟨by omega, by omega⟩ | exact Ow.mul1 ⟨by omega, by omega⟩ | exact Ow.shl0 (by omega) (by omega) (by omega) | exact ⟨by omega, by omega⟩ | exact ⟨by omega, by omega, by omega⟩ | omega | (simp only [List.length_append, List.length_cons, List.length_nil]; omega) | (subst_vars; omega)), (by first | assumption | exact Ow.divw64 (by omega) (by omega) | exact Ow.mul0 ⟨by omega, by omega⟩ | exact Ow.mul1 ⟨by omega, by omega⟩ | exact Ow.shl0 (by omega) (by omega) (by omega) | exact ⟨by omega, by omega⟩ | exact ⟨by omega, by omega, by omega⟩ | omega | (simp only [List.length_append, List.length_cons, List.length_nil]; omega) | (subst_vars; omega)), (Ow.Sz.mono (Ow.Sz.add (Ow.Sz.abs h73 h_ab_5) (Ow.Sz.mono (Ow.Sz.lit (n := 1) (i := 1) (by decide)) (by decide : 1 ≤ 2340))) (by decide : 2341 ≤ 2350)), h76, (Ow.Sz.mono z_l_divisor_2 (by decide : 5 ≤ 2340)), fun Hn_25 h89 => ?_⟩
            refine ⟨_, rfl, ?_⟩
            refine iteF ?_
            exact ⟨_, _, _, _, _, _, _, _, _, _, rfl, (((Ow.same_mut (Ow.same_frame (Ow.same_mut (Ow.same_mut (Ow.same_mut (h67.trans (Ow.same_new h_p_4)) (Same.free h67 h_p_4)) (Same.free h67 h_p_4)) (Same.free h67 h_p_4)) h77 (Same.free h67 h_p_4)) (Same.free h67 h_p_4)).trans h88).trans h89)⟩
        · refine ⟨_, rfl, ?_⟩
          refine ⟨_, _, _, _, rfl, upd_same, fun t_14 a2_14 n2_14 h90 => ?_⟩
          refine ⟨_, rfl, ?_⟩
          refine ⟨_, rfl, fun ab_6 h_ab_6 => ?_⟩
          have hm_ab_6 := Ow.abs_ite h_ab_6
          refine ⟨_, rfl, ?_⟩
          refine ⟨_, rfl, ?_⟩
          refine ⟨_, _, _, _, _, rfl, upd_same, (by first | assumption | exact Ow.divw64 (by omega) (by omega) | exact Ow.mul0 ⟨by omega, by omega⟩ | exact Ow.mul1 ⟨by omega, by omega⟩ | exact Ow.shl0 (by omega) (by omega) (by omega) | exact ⟨by omega, by omega⟩ | exact ⟨by omega, by omega, by omega⟩ | omega | (simp only [List.length_append, List.length_cons, List.length_nil]; omega) | (subst_vars; omega)), (Ow.Sz.abs h69 h_ab_4), fun l_rest_here_4 a2_15 n2_15 h91 h92 h93 Hn_26 h94 h95 => ?_⟩
          refine ⟨_, rfl, ?_⟩
          refine ⟨_, _, _, _, _, rfl, h95, (by first | assumption | exact Ow.divw64 (by omega) (by omega) | exact Ow.mul0 ⟨by omega, by omega⟩ | exact Ow.mul1 ⟨by omega, by omega⟩ | exact Ow.shl0 (by omega) (by omega) (by omega) | exact ⟨by omega, by omega⟩ | exact ⟨by omega, by omega, by omega⟩ | omega | (simp only [List.length_append, List.length_cons, List.length_nil]; omega) | (subst_vars; omega)), (by first | assumption | exact Ow.divw64 (by omega) (by omega) | exact Ow.mul0 ⟨by omega, by omega⟩ | exact Ow.mul1 ⟨by omega, by omega⟩ | exact Ow.shl0 (by omega) (by omega) (by omega) | exact ⟨by omega, by omega⟩ | exact ⟨by omega, by omega, by omega⟩ | omega | (simp only [List.length_append, List.length_cons, List.length_nil]; omega) | (subst_vars; omega)), fun l_turn_4 a2_16 n2_16 h96 h97 => ?_⟩
          refine ⟨_, rfl, (by first | assumption | exact Ow.divw64 (by omega) (by omega) | exact Ow.mul0 ⟨by omega, by omega⟩ | exact Ow.mul1 ⟨by omega, by omega⟩ | exact Ow.shl0 (by omega) (by omega) (by omega) | exact ⟨by omega, by omega⟩ | exact ⟨by omega, by omega, by omega⟩ | omega | (simp only [List.length_append, List.length_cons, List.length_nil]; omega) | (subst_vars; omega)), (by first | assumption | exact Ow.divw64 (by omega) (by omega) | exact Ow.mul0 ⟨by omega, by omega⟩ | exact Ow.mul1 ⟨by omega, by omega⟩ | exact Ow.shl0 (by omega) (by omega) (by omega) | exact ⟨by omega, by omega⟩ | exact ⟨by omega, by omega, by omega⟩ | omega | (simp only [List.length_append, List.length_cons, List.length_nil]; omega) | (subst_vars; omega)), ?_⟩
          refine for_range (lo := 0) (fun i σ2 H2 => ∃ (v_9 : Option V) (v_10 : Option V) (v_11 : Option V) (v_12 : Option V), σ2 = [some (.ref script), some (.ref p), some (.ref D), some (.int (l_k_2)), some (.ref p_4), some (.int (ab_4)), some (.int (ab_6)), some (.int (l_rest_here_4)), some (.int (l_turn_4)), v_9, v_10, v_11, v_12] ∧ Same _ H2) ⟨_, _, _, _, rfl, Same.refl _⟩ ?_ ?_
          · rintro i_10 _ Hn_27 h99 ⟨_, _, _, _, rfl, h98⟩
            refine Ow.gturn (fun l_j_4 h_l_j_4 => ?_)
            have z_l_j_4 : Ow.Sz 4 l_j_4 := by unfold Ow.Sz; omega
            refine ⟨_, rfl, ?_⟩
            refine ⟨_, rfl, ?_⟩
            refine ⟨_, _, rfl, rfl, ?_⟩
            refine ⟨_, _, rfl, rfl, (by first | assumption | exact Ow.divw64 (by omega) (by omega) | exact Ow.mul0 ⟨by omega, by omega⟩ | exact Ow.mul1 ⟨by omega, by omega⟩ | exact Ow.shl0 (by omega) (by omega) (by omega) | exact ⟨by omega, by omega⟩ | exact ⟨by omega, by omega, by omega⟩ | omega | (simp only [List.length_append, List.length_cons, List.length_nil]; omega) | (subst_vars; omega)), fun l_at_7 h_l_at_7 h0_l_at_7 h1_l_at_7 => ?_⟩
            refine ⟨_, rfl, ?_⟩
            refine ⟨_, rfl, ?_⟩
            refine Ow.ixs4 (SqL.of (h98 _ _ (Ow.at_mut (ne_of_none (h67 _ _ (Ow.at_mut (ne_of_none upd_same h_D) (h10 _ _ (Ow.at_mut (ne_of_none upd_same h_D) (h7 _ _ (Ow.at_mut (ne_of_none upd_same h_D) (h4 _ _ (Ow.at_mut (ne_of_none upd_same h_D) (h1 _ _ (Ow.at_new h_D upd_same)))))))))) h_p_4) (h94 _ _ (ne_of_none (h67 _ _ (Ow.at_mut (ne_of_none upd_same h_D) (h10 _ _ (Ow.at_mut (ne_of_none upd_same h_D) (h7 _ _ (Ow.at_mut (ne_of_none upd_same h_D) (h4 _ _ (Ow.at_mut (ne_of_none upd_same h_D) (h1 _ _ (Ow.at_new h_D upd_same)))))))))) h_p_4) (Ow.at_mut (ne_of_none (h67 _ _ (Ow.at_mut (ne_of_none upd_same h_D) (h10 _ _ (Ow.at_mut (ne_of_none upd_same h_D) (h7 _ _ (Ow.at_mut (ne_of_none upd_same h_D) (h4 _ _ (Ow.at_mut (ne_of_none upd_same h_D) (h1 _ _ (Ow.at_new h_D upd_same)))))))))) h_p_4) (Ow.at_mut (ne_of_none (h67 _ _ (Ow.at_mut (ne_of_none upd_same h_D) (h10 _ _ (Ow.at_mut (ne_of_none upd_same h_D) (h7 _ _ (Ow.at_mut (ne_of_none upd_same h_D) (h4 _ _ (Ow.at_mut (ne_of_none upd_same h_D) (h1 _ _ (Ow.at_new h_D upd_same)))))))))) h_p_4) (Ow.at_new h_p_4 (h67 _ _ (Ow.at_mut (ne_of_none upd_same h_D) (h10 _ _ (Ow.at_mut (ne_of_none upd_same h_D) (h7 _ _ (Ow.at_mut (ne_of_none upd_same h_D) (h4 _ _ (Ow.at_mut (ne_of_none upd_same h_D) (h1 _ _ (Ow.at_new h_D upd_same))))))))))))))))) (by first | assumption | exact Ow.divw64 (by omega) (by omega) | exact Ow.mul0 ⟨by omega, by omega⟩ | exact Ow.mul1 ⟨by omega, by omega⟩ | exact Ow.shl0 (by omega) (by omega) (by omega) | exact ⟨by omega, by omega⟩ | exact ⟨by omega, by omega, by omega⟩ | omega | (simp only [List.length_append, List.length_cons, List.length_nil]; omega) | (subst_vars; omega)) (fun it_10 h_it_10 => ?_)
            refine ⟨_, rfl, ?_⟩
            refine ⟨_, rfl, ?_⟩
            refine ixo_Way T (i := l_at_7) (SqL.of (h98 _ _ (Ow.at_mut (ne_of_none (h67 _ _ upd_same) h_p_4) (h94 _ _ (ne_of_none (h67 _ _ upd_same) h_p_4) (Ow.at_mut (ne_of_none (h67 _ _ upd_same) h_p_4) (Ow.at_mut (ne_of_none (h67 _ _ upd_same) h_p_4) (Ow.at_new h_p_4 (h67 _ _ upd_same)))))))) (h98 _ _ (Ow.at_mut (ne_of_none (h67 _ _ (Ow.at_mut (Ow.ne_sym (ne_of_none upd_same h2)) (h10 _ _ (Ow.at_mut (Ow.ne_sym (ne_of_none upd_same h2)) (h7 _ _ (Ow.at_mut (Ow.ne_sym (ne_of_none upd_same h2)) (h4 _ _ (Ow.at_mut (Ow.ne_sym (ne_of_none upd_same h2)) h3)))))))) h_p_4) (h94 _ _ (ne_of_none (h67 _ _ (Ow.at_mut (Ow.ne_sym (ne_of_none upd_same h2)) (h10 _ _ (Ow.at_mut (Ow.ne_sym (ne_of_none upd_same h2)) (h7 _ _ (Ow.at_mut (Ow.ne_sym (ne_of_none upd_same h2)) (h4 _ _ (Ow.at_mut (Ow.ne_sym (ne_of_none upd_same h2)) h3)))))))) h_p_4) (Ow.at_mut (ne_of_none (h67 _ _ (Ow.at_mut (Ow.ne_sym (ne_of_none upd_same h2)) (h10 _ _ (Ow.at_mut (Ow.ne_sym (ne_of_none upd_same h2)) (h7 _ _ (Ow.at_mut (Ow.ne_sym (ne_of_none upd_same h2)) (h4 _ _ (Ow.at_mut (Ow.ne_sym (ne_of_none upd_same h2)) h3)))))))) h_p_4) (Ow.at_mut (ne_of_none (h67 _ _ (Ow.at_mut (Ow.ne_sym (ne_of_none upd_same h2)) (h10 _ _ (Ow.at_mut (Ow.ne_sym (ne_of_none upd_same h2)) (h7 _ _ (Ow.at_mut (Ow.ne_sym (ne_of_none upd_same h2)) (h4 _ _ (Ow.at_mut (Ow.ne_sym (ne_of_none upd_same h2)) h3)))))))) h_p_4) (Ow.at_new h_p_4 (h67 _ _ (Ow.at_mut (Ow.ne_sym (ne_of_none upd_same h2)) (h10 _ _ (Ow.at_mut (Ow.ne_sym (ne_of_none upd_same h2)) (h7 _ _ (Ow.at_mut (Ow.ne_sym (ne_of_none upd_same h2)) (h4 _ _ (Ow.at_mut (Ow.ne_sym (ne_of_none upd_same h2)) h3)))))))))))))) (h98 _ _ (Ow.at_mut (ne_of_none (h67 _ _ (Ow.at_mut (Ow.ne_sym (ne_of_none upd_same h5)) (h10 _ _ (Ow.at_mut (Ow.ne_sym (ne_of_none upd_same h5)) (h7 _ _ (Ow.at_mut (Ow.ne_sym (ne_of_none upd_same h5)) h6)))))) h_p_4) (h94 _ _ (ne_of_none (h67 _ _ (Ow.at_mut (Ow.ne_sym (ne_of_none upd_same h5)) (h10 _ _ (Ow.at_mut (Ow.ne_sym (ne_of_none upd_same h5)) (h7 _ _ (Ow.at_mut (Ow.ne_sym (ne_of_none upd_same h5)) h6)))))) h_p_4) (Ow.at_mut (ne_of_none (h67 _ _ (Ow.at_mut (Ow.ne_sym (ne_of_none upd_same h5)) (h10 _ _ (Ow.at_mut (Ow.ne_sym (ne_of_none upd_same h5)) (h7 _ _ (Ow.at_mut (Ow.ne_sym (ne_of_none upd_same h5)) h6)))))) h_p_4) (Ow.at_mut (ne_of_none (h67 _ _ (Ow.at_mut (Ow.ne_sym (ne_of_none upd_same h5)) (h10 _ _ (Ow.at_mut (Ow.ne_sym (ne_of_none upd_same h5)) (h7 _ _ (Ow.at_mut (Ow.ne_sym (ne_of_none upd_same h5)) h6)))))) h_p_4) (Ow.at_new h_p_4 (h67 _ _ (Ow.at_mut (Ow.ne_sym (ne_of_none upd_same h5)) (h10 _ _ (Ow.at_mut (Ow.ne_sym (ne_of_none upd_same h5)) (h7 _ _ (Ow.at_mut (Ow.ne_sym (ne_of_none upd_same h5)) h6)))))))))))) (h98 _ _ (Ow.at_mut (ne_of_none (h67 _ _ (Ow.at_mut (Ow.ne_sym (ne_of_none upd_same h8)) (h10 _ _ (Ow.at_mut (Ow.ne_sym (ne_of_none upd_same h8)) h9)))) h_p_4) (h94 _ _ (ne_of_none (h67 _ _ (Ow.at_mut (Ow.ne_sym (ne_of_none upd_same h8)) (h10 _ _ (Ow.at_mut (Ow.ne_sym (ne_of_none upd_same h8)) h9)))) h_p_4) (Ow.at_mut (ne_of_none (h67 _ _ (Ow.at_mut (Ow.ne_sym (ne_of_none upd_same h8)) (h10 _ _ (Ow.at_mut (Ow.ne_sym (ne_of_none upd_same h8)) h9)))) h_p_4) (Ow.at_mut (ne_of_none (h67 _ _ (Ow.at_mut (Ow.ne_sym (ne_of_none upd_same h8)) (h10 _ _ (Ow.at_mut (Ow.ne_sym (ne_of_none upd_same h8)) h9)))) h_p_4) (Ow.at_new h_p_4 (h67 _ _ (Ow.at_mut (Ow.ne_sym (ne_of_none upd_same h8)) (h10 _ _ (Ow.at_mut (Ow.ne_sym (ne_of_none upd_same h8)) h9)))))))))) (h98 _ _ (Ow.at_mut (ne_of_none (h67 _ _ (Ow.at_mut (Ow.ne_sym (ne_of_none upd_same h11)) h12)) h_p_4) (h94 _ _ (ne_of_none (h67 _ _ (Ow.at_mut (Ow.ne_sym (ne_of_none upd_same h11)) h12)) h_p_4) (Ow.at_mut (ne_of_none (h67 _ _ (Ow.at_mut (Ow.ne_sym (ne_of_none upd_same h11)) h12)) h_p_4) (Ow.at_mut (ne_of_none (h67 _ _ (Ow.at_mut (Ow.ne_sym (ne_of_none upd_same h11)) h12)) h_p_4) (Ow.at_new h_p_4 (h67 _ _ (Ow.at_mut (Ow.ne_sym (ne_of_none upd_same h11)) h12)))))))) (by first | assumption | exact Ow.divw64 (by omega) (by omega) | exact Ow.mul0 ⟨by omega, by omega⟩ | exact Ow.mul1 ⟨by omega, by omega⟩ | exact Ow.shl0 (by omega) (by omega) (by omega) | exact ⟨by omega, by omega⟩ | exact ⟨by omega, by omega, by omega⟩ | omega | (simp only [List.length_append, List.length_cons, List.length_nil]; omega) | (subst_vars; omega)) (fun wy_10 o_18 dx_18 h_wy_10 h_o_18 => ?_)
            have hw_wy_10 : it_10 = Ow.wrd_Way wy_10 := by rcases h_it_10 with ⟨hz, rfl⟩ | ⟨hz, rfl⟩ | ⟨hz, rfl⟩ | ⟨hz, rfl⟩ <;> cases wy_10 <;> first | rfl | (exfalso; simp only [ix_Way] at h_wy_10; omega)
            refine ⟨_, rfl, ?_⟩
            refine ⟨_, rfl, ?_⟩
            refine ⟨_, rfl, ?_⟩
            refine ⟨_, rfl, ?_⟩
            refine ⟨_, rfl, ?_⟩
            refine ⟨_, _, rfl, rfl, ?_⟩
            refine ⟨_, _, rfl, rfl, (by first | assumption | exact Ow.divw64 (by omega) (by omega) | exact Ow.mul0 ⟨by omega, by omega⟩ | exact Ow.mul1 ⟨by omega, by omega⟩ | exact Ow.shl0 (by omega) (by omega) (by omega) | exact ⟨by omega, by omega⟩ | exact ⟨by omega, by omega, by omega⟩ | omega | (simp only [List.length_append, List.length_cons, List.length_nil]; omega) | (subst_vars; omega)), fun r_5 h_r_5 h0_r_5 h1_r_5 => ?_⟩
            refine ⟨_, _, rfl, rfl, ?_⟩
            refine ⟨_, _, _, _, _, _, wy_10, _, rfl, (by first | assumption | exact Ow.divw64 (by omega) (by omega) | exact Ow.mul0 ⟨by omega, by omega⟩ | exact Ow.mul1 ⟨by omega, by omega⟩ | exact Ow.shl0 (by omega) (by omega) (by omega) | exact ⟨by omega, by omega⟩ | exact ⟨by omega, by omega, by omega⟩ | omega | (simp only [List.length_append, List.length_cons, List.length_nil]; omega) | (subst_vars; omega)), h_o_18, (by first | assumption | exact Ow.divw64 (by omega) (by omega) | exact Ow.mul0 ⟨by omega, by omega⟩ | exact Ow.mul1 ⟨by omega, by omega⟩ | exact Ow.shl0 (by omega) (by omega) (by omega) | exact ⟨by omega, by omega⟩ | exact ⟨by omega, by omega, by omega⟩ | omega | (simp only [List.length_append, List.length_cons, List.length_nil]; omega) | (subst_vars; omega)), (by first | assumption | exact Ow.divw64 (by omega) (by omega) | exact Ow.mul0 ⟨by omega, by omega⟩ | exact Ow.mul1 ⟨by omega, by omega⟩ | exact Ow.shl0 (by omega) (by omega) (by omega) | exact ⟨by omega, by omega⟩ | exact ⟨by omega, by omega, by omega⟩ | omega | (simp only [List.length_append, List.length_cons, List.length_nil]; omega) | (subst_vars; omega)), (by first | assumption | exact Ow.divw64 (by omega) (by omega) | exact Ow.mul0 ⟨by omega, by omega⟩ | exact Ow.mul1 ⟨by omega, by omega⟩ | exact Ow.shl0 (by omega) (by omega) (by omega) | exact ⟨by omega, by omega⟩ | exact ⟨by omega, by omega, by omega⟩ | omega | (simp only [List.length_append, List.length_cons, List.length_nil]; omega) | (subst_vars; omega)), (Ow.Sz.mono (Ow.Sz.abs h90 h_ab_6) (by decide : 2340 ≤ 2350)), h93, (Ow.Sz.abs h69 h_ab_4), fun Hn_28 h100 => ?_⟩
            refine ⟨_, rfl, ?_⟩
            refine iteF ?_
            refine ⟨_, rfl, ?_⟩
            refine ⟨_, _, rfl, rfl, (.inr (Ow.mulx (Ow.Sz.lit (n := 3) (i := 7) (by decide)) (Ow.Sz.rng (n := 4) h96 h97 (by decide)) (by decide))), fun m_8 h_m_8 => ?_⟩
            have z_m_8 : Ow.Sz 7 m_8 := by rw [h_m_8]; exact (Ow.Sz.mul (Ow.Sz.lit (n := 3) (i := 7) (by decide)) (Ow.Sz.rng (n := 4) h96 h97 (by decide)))
            refine ⟨_, rfl, ?_⟩
            refine ⟨_, _, rfl, rfl, ?_⟩
            refine ⟨_, rfl, fun l_top_4 h_l_top_4 => ?_⟩
            have z_l_top_4 : Ow.Sz 8 l_top_4 := by rw [h_l_top_4]; exact (Ow.Sz.add z_m_8 (Ow.Sz.mono z_l_j_4 (by decide : 4 ≤ 7)))
            refine ⟨_, rfl, ?_⟩
            refine ⟨_, _, rfl, rfl, ?_⟩
            refine ⟨_, rfl, ?_⟩
            refine Ow.ifd (fun h101 => ?_) (fun h101 => ?_)
            · refine ⟨_, rfl, ?_⟩
              refine ⟨_, rfl, ?_⟩
              refine Ow.ixs4 (SqL.of (h100 _ _ (h98 _ _ (Ow.at_mut (ne_of_none (h67 _ _ (Ow.at_mut (ne_of_none upd_same h_D) (h10 _ _ (Ow.at_mut (ne_of_none upd_same h_D) (h7 _ _ (Ow.at_mut (ne_of_none upd_same h_D) (h4 _ _ (Ow.at_mut (ne_of_none upd_same h_D) (h1 _ _ (Ow.at_new h_D upd_same)))))))))) h_p_4) (h94 _ _ (ne_of_none (h67 _ _ (Ow.at_mut (ne_of_none upd_same h_D) (h10 _ _ (Ow.at_mut (ne_of_none upd_same h_D) (h7 _ _ (Ow.at_mut (ne_of_none upd_same h_D) (h4 _ _ (Ow.at_mut (ne_of_none upd_same h_D) (h1 _ _ (Ow.at_new h_D upd_same)))))))))) h_p_4) (Ow.at_mut (ne_of_none (h67 _ _ (Ow.at_mut (ne_of_none upd_same h_D) (h10 _ _ (Ow.at_mut (ne_of_none upd_same h_D) (h7 _ _ (Ow.at_mut (ne_of_none upd_same h_D) (h4 _ _ (Ow.at_mut (ne_of_none upd_same h_D) (h1 _ _ (Ow.at_new h_D upd_same)))))))))) h_p_4) (Ow.at_mut (ne_of_none (h67 _ _ (Ow.at_mut (ne_of_none upd_same h_D) (h10 _ _ (Ow.at_mut (ne_of_none upd_same h_D) (h7 _ _ (Ow.at_mut (ne_of_none upd_same h_D) (h4 _ _ (Ow.at_mut (ne_of_none upd_same h_D) (h1 _ _ (Ow.at_new h_D upd_same)))))))))) h_p_4) (Ow.at_new h_p_4 (h67 _ _ (Ow.at_mut (ne_of_none upd_same h_D) (h10 _ _ (Ow.at_mut (ne_of_none upd_same h_D) (h7 _ _ (Ow.at_mut (ne_of_none upd_same h_D) (h4 _ _ (Ow.at_mut (ne_of_none upd_same h_D) (h1 _ _ (Ow.at_new h_D upd_same)))))))))))))))))) (by first | assumption | exact Ow.divw64 (by omega) (by omega) | exact Ow.mul0 ⟨by omega, by omega⟩ | exact Ow.mul1 ⟨by omega, by omega⟩ | exact Ow.shl0 (by omega) (by omega) (by omega) | exact ⟨by omega, by omega⟩ | exact ⟨by omega, by omega, by omega⟩ | omega | (simp only [List.length_append, List.length_cons, List.length_nil]; omega) | (subst_vars; omega)) (fun it_11 h_it_11 => ?_)
              refine ⟨_, rfl, ?_⟩
              refine ⟨_, rfl, ?_⟩
              refine ⟨_, rfl, ?_⟩
              refine ixo_Way T (i := l_at_7) (SqL.of (h100 _ _ (h98 _ _ (Ow.at_mut (ne_of_none (h67 _ _ upd_same) h_p_4) (h94 _ _ (ne_of_none (h67 _ _ upd_same) h_p_4) (Ow.at_mut (ne_of_none (h67 _ _ upd_same) h_p_4) (Ow.at_mut (ne_of_none (h67 _ _ upd_same) h_p_4) (Ow.at_new h_p_4 (h67 _ _ upd_same))))))))) (h100 _ _ (h98 _ _ (Ow.at_mut (ne_of_none (h67 _ _ (Ow.at_mut (Ow.ne_sym (ne_of_none upd_same h2)) (h10 _ _ (Ow.at_mut (Ow.ne_sym (ne_of_none upd_same h2)) (h7 _ _ (Ow.at_mut (Ow.ne_sym (ne_of_none upd_same h2)) (h4 _ _ (Ow.at_mut (Ow.ne_sym (ne_of_none upd_same h2)) h3)))))))) h_p_4) (h94 _ _ (ne_of_none (h67 _ _ (Ow.at_mut (Ow.ne_sym (ne_of_none upd_same h2)) (h10 _ _ (Ow.at_mut (Ow.ne_sym (ne_of_none upd_same h2)) (h7 _ _ (Ow.at_mut (Ow.ne_sym (ne_of_none upd_same h2)) (h4 _ _ (Ow.at_mut (Ow.ne_sym (ne_of_none upd_same h2)) h3)))))))) h_p_4) (Ow.at_mut (ne_of_none (h67 _ _ (Ow.at_mut (Ow.ne_sym (ne_of_none upd_same h2)) (h10 _ _ (Ow.at_mut (Ow.ne_sym (ne_of_none upd_same h2)) (h7 _ _ (Ow.at_mut (Ow.ne_sym (ne_of_none upd_same h2)) (h4 _ _ (Ow.at_mut (Ow.ne_sym (ne_of_none upd_same h2)) h3)))))))) h_p_4) (Ow.at_mut (ne_of_none (h67 _ _ (Ow.at_mut (Ow.ne_sym (ne_of_none upd_same h2)) (h10 _ _ (Ow.at_mut (Ow.ne_sym (ne_of_none upd_same h2)) (h7 _ _ (Ow.at_mut (Ow.ne_sym (ne_of_none upd_same h2)) (h4 _ _ (Ow.at_mut (Ow.ne_sym (ne_of_none upd_same h2)) h3)))))))) h_p_4) (Ow.at_new h_p_4 (h67 _ _ (Ow.at_mut (Ow.ne_sym (ne_of_none upd_same h2)) (h10 _ _ (Ow.at_mut (Ow.ne_sym (ne_of_none upd_same h2)) (h7 _ _ (Ow.at_mut (Ow.ne_sym (ne_of_none upd_same h2)) (h4 _ _ (Ow.at_mut (Ow.ne_sym (ne_of_none upd_same h2)) h3))))))))))))))) (h100 _ _ (h98 _ _ (Ow.at_mut (ne_of_none (h67 _ _ (Ow.at_mut (Ow.ne_sym (ne_of_none upd_same h5)) (h10 _ _ (Ow.at_mut (Ow.ne_sym (ne_of_none upd_same h5)) (h7 _ _ (Ow.at_mut (Ow.ne_sym (ne_of_none upd_same h5)) h6)))))) h_p_4) (h94 _ _ (ne_of_none (h67 _ _ (Ow.at_mut (Ow.ne_sym (ne_of_none upd_same h5)) (h10 _ _ (Ow.at_mut (Ow.ne_sym (ne_of_none upd_same h5)) (h7 _ _ (Ow.at_mut (Ow.ne_sym (ne_of_none upd_same h5)) h6)))))) h_p_4) (Ow.at_mut (ne_of_none (h67 _ _ (Ow.at_mut (Ow.ne_sym (ne_of_none upd_same h5)) (h10 _ _ (Ow.at_mut (Ow.ne_sym (ne_of_none upd_same h5)) (h7 _ _ (Ow.at_mut (Ow.ne_sym (ne_of_none upd_same h5)) h6)))))) h_p_4) (Ow.at_mut (ne_of_none (h67 _ _ (Ow.at_mut (Ow.ne_sym (ne_of_none upd_same h5)) (h10 _ _ (Ow.at_mut (Ow.ne_sym (ne_of_none upd_same h5)) (h7 _ _ (Ow.at_mut (Ow.ne_sym (ne_of_none upd_same h5)) h6)))))) h_p_4) (Ow.at_new h_p_4 (h67 _ _ (Ow.at_mut (Ow.ne_sym (ne_of_none upd_same h5)) (h10 _ _ (Ow.at_mut (Ow.ne_sym (ne_of_none upd_same h5)) (h7 _ _ (Ow.at_mut (Ow.ne_sym (ne_of_none upd_same h5)) h6))))))))))))) (h100 _ _ (h98 _ _ (Ow.at_mut (ne_of_none (h67 _ _ (Ow.at_mut (Ow.ne_sym (ne_of_none upd_same h8)) (h10 _ _ (Ow.at_mut (Ow.ne_sym (ne_of_none upd_same h8)) h9)))) h_p_4) (h94 _ _ (ne_of_none (h67 _ _ (Ow.at_mut (Ow.ne_sym (ne_of_none upd_same h8)) (h10 _ _ (Ow.at_mut (Ow.ne_sym (ne_of_none upd_same h8)) h9)))) h_p_4) (Ow.at_mut (ne_of_none (h67 _ _ (Ow.at_mut (Ow.ne_sym (ne_of_none upd_same h8)) (h10 _ _ (Ow.at_mut (Ow.ne_sym (ne_of_none upd_same h8)) h9)))) h_p_4) (Ow.at_mut (ne_of_none (h67 _ _ (Ow.at_mut (Ow.ne_sym (ne_of_none upd_same h8)) (h10 _ _ (Ow.at_mut (Ow.ne_sym (ne_of_none upd_same h8)) h9)))) h_p_4) (Ow.at_new h_p_4 (h67 _ _ (Ow.at_mut (Ow.ne_sym (ne_of_none upd_same h8)) (h10 _ _ (Ow.at_mut (Ow.ne_sym (ne_of_none upd_same h8)) h9))))))))))) (h100 _ _ (h98 _ _ (Ow.at_mut (ne_of_none (h67 _ _ (Ow.at_mut (Ow.ne_sym (ne_of_none upd_same h11)) h12)) h_p_4) (h94 _ _ (ne_of_none (h67 _ _ (Ow.at_mut (Ow.ne_sym (ne_of_none upd_same h11)) h12)) h_p_4) (Ow.at_mut (ne_of_none (h67 _ _ (Ow.at_mut (Ow.ne_sym (ne_of_none upd_same h11)) h12)) h_p_4) (Ow.at_mut (ne_of_none (h67 _ _ (Ow.at_mut (Ow.ne_sym (ne_of_none upd_same h11)) h12)) h_p_4) (Ow.at_new h_p_4 (h67 _ _ (Ow.at_mut (Ow.ne_sym (ne_of_none upd_same h11)) h12))))))))) (by first | assumption | exact Ow.divw64 (by omega) (by omega) | exact Ow.mul0 ⟨by omega, by omega⟩ | exact Ow.mul1 ⟨by omega, by omega⟩ | exact Ow.shl0 (by omega) (by omega) (by omega) | exact ⟨by omega, by omega⟩ | exact ⟨by omega, by omega, by omega⟩ | omega | (simp only [List.length_append, List.length_cons, List.length_nil]; omega) | (subst_vars; omega)) (fun wy_11 o_19 dx_19 h_wy_11 h_o_19 => ?_)
              have hw_wy_11 : it_11 = Ow.wrd_Way wy_11 := by rcases h_it_11 with ⟨hz, rfl⟩ | ⟨hz, rfl⟩ | ⟨hz, rfl⟩ | ⟨hz, rfl⟩ <;> cases wy_11 <;> first | rfl | (exfalso; simp only [ix_Way] at h_wy_11; omega)
              refine ⟨_, _, _, Ow.cls_Way T wy_11, sp_Way_rounded T, rfl, (by cases wy_11 <;> first | exact .inl ⟨rfl, rfl⟩ | exact .inr (.inl ⟨rfl, rfl⟩) | exact .inr (.inr (.inl ⟨rfl, rfl⟩)) | exact .inr (.inr (.inr (⟨rfl, rfl⟩)))), h_o_19, rfl, ?_⟩
              refine ⟨_, rfl, ?_⟩
              refine ⟨_, _, _, wy_11, _, rfl, h_o_19, (Ow.Sz.mono z_l_top_4 (by decide : 8 ≤ 4000)), (by first | assumption | exact Ow.divw64 (by omega) (by omega) | exact Ow.mul0 ⟨by omega, by omega⟩ | exact Ow.mul1 ⟨by omega, by omega⟩ | exact Ow.shl0 (by omega) (by omega) (by omega) | exact ⟨by omega, by omega⟩ | exact ⟨by omega, by omega, by omega⟩ | omega | (simp only [List.length_append, List.length_cons, List.length_nil]; omega) | (subst_vars; omega)), (Ow.Sz.mono (Ow.Sz.lit (n := 3) (i := 4) (by decide)) (by decide : 3 ≤ 4000)), fun t_15 h102 h103 Hn_29 h104 => ?_⟩
              refine ⟨_, _, _, _, _, rfl, (by first | assumption | exact Ow.divw64 (by omega) (by omega) | exact Ow.mul0 ⟨by omega, by omega⟩ | exact Ow.mul1 ⟨by omega, by omega⟩ | exact Ow.shl0 (by omega) (by omega) (by omega) | exact ⟨by omega, by omega⟩ | exact ⟨by omega, by omega, by omega⟩ | omega | (simp only [List.length_append, List.length_cons, List.length_nil]; omega) | (subst_vars; omega) | (subst_vars; exact Ow.lies (by omega))), (by first | assumption | exact Ow.divw64 (by omega) (by omega) | exact Ow.mul0 ⟨by omega, by omega⟩ | exact Ow.mul1 ⟨by omega, by omega⟩ | exact Ow.shl0 (by omega) (by omega) (by omega) | exact ⟨by omega, by omega⟩ | exact ⟨by omega, by omega, by omega⟩ | omega | (simp only [List.length_append, List.length_cons, List.length_nil]; omega) | (subst_vars; omega) | (subst_vars; exact Ow.lies (by omega))), (by first | assumption | exact Ow.divw64 (by omega) (by omega) | exact Ow.mul0 ⟨by omega, by omega⟩ | exact Ow.mul1 ⟨by omega, by omega⟩ | exact Ow.shl0 (by omega) (by omega) (by omega) | exact ⟨by omega, by omega⟩ | exact ⟨by omega, by omega, by omega⟩ | omega | (simp only [List.length_append, List.length_cons, List.length_nil]; omega) | (subst_vars; omega) | (subst_vars; exact Ow.lies (by omega))), (Ow.Sz.mono z_l_top_4 (by decide : 8 ≤ 6000)), (Ow.Sz.mono (Ow.Sz.lit (n := 3) (i := 4) (by decide)) (by decide : 3 ≤ 6000)), (Ow.Sz.mono h103 (by decide : 4002 ≤ 6000)), ?_⟩
              refine ⟨_, rfl, ?_⟩
              refine iteF ?_
              exact ⟨_, _, _, _, rfl, ((h98.trans h100).trans h104)⟩
            · refine iteF ?_
              exact ⟨_, _, _, _, rfl, (h98.trans h100)⟩
          · rintro _ Hn_30 ⟨_, _, _, _, rfl, h105⟩
            refine ⟨_, rfl, ?_⟩
            refine ⟨_, _, rfl, rfl, (by first | assumption | exact Ow.divw64 (by omega) (by omega) | exact Ow.mul0 ⟨by omega, by omega⟩ | exact Ow.mul1 ⟨by omega, by omega⟩ | exact Ow.shl0 (by omega) (by omega) (by omega) | exact ⟨by omega, by omega⟩ | exact ⟨by omega, by omega, by omega⟩ | omega | (simp only [List.length_append, List.length_cons, List.length_nil]; omega) | (subst_vars; omega)), fun l_at_8 h_l_at_8 h0_l_at_8 h1_l_at_8 => ?_⟩
            refine ⟨_, rfl, ?_⟩
            refine ⟨_, rfl, ?_⟩
            refine Ow.ixs4 (SqL.of (h105 _ _ (Ow.at_mut (ne_of_none (h67 _ _ (Ow.at_mut (ne_of_none upd_same h_D) (h10 _ _ (Ow.at_mut (ne_of_none upd_same h_D) (h7 _ _ (Ow.at_mut (ne_of_none upd_same h_D) (h4 _ _ (Ow.at_mut (ne_of_none upd_same h_D) (h1 _ _ (Ow.at_new h_D upd_same)))))))))) h_p_4) (h94 _ _ (ne_of_none (h67 _ _ (Ow.at_mut (ne_of_none upd_same h_D) (h10 _ _ (Ow.at_mut (ne_of_none upd_same h_D) (h7 _ _ (Ow.at_mut (ne_of_none upd_same h_D) (h4 _ _ (Ow.at_mut (ne_of_none upd_same h_D) (h1 _ _ (Ow.at_new h_D upd_same)))))))))) h_p_4) (Ow.at_mut (ne_of_none (h67 _ _ (Ow.at_mut (ne_of_none upd_same h_D) (h10 _ _ (Ow.at_mut (ne_of_none upd_same h_D) (h7 _ _ (Ow.at_mut (ne_of_none upd_same h_D) (h4 _ _ (Ow.at_mut (ne_of_none upd_same h_D) (h1 _ _ (Ow.at_new h_D upd_same)))))))))) h_p_4) (Ow.at_mut (ne_of_none (h67 _ _ (Ow.at_mut (ne_of_none upd_same h_D) (h10 _ _ (Ow.at_mut (ne_of_none upd_same h_D) (h7 _ _ (Ow.at_mut (ne_of_none upd_same h_D) (h4 _ _ (Ow.at_mut (ne_of_none upd_same h_D) (h1 _ _ (Ow.at_new h_D upd_same)))))))))) h_p_4) (Ow.at_new h_p_4 (h67 _ _ (Ow.at_mut (ne_of_none upd_same h_D) (h10 _ _ (Ow.at_mut (ne_of_none upd_same h_D) (h7 _ _ (Ow.at_mut (ne_of_none upd_same h_D) (h4 _ _ (Ow.at_mut (ne_of_none upd_same h_D) (h1 _ _ (Ow.at_new h_D upd_same))))))))))))))))) (by first | assumption | exact Ow.divw64 (by omega) (by omega) | exact Ow.mul0 ⟨by omega, by omega⟩ | exact Ow.mul1 ⟨by omega, by omega⟩ | exact Ow.shl0 (by omega) (by omega) (by omega) | exact ⟨by omega, by omega⟩ | exact ⟨by omega, by omega, by omega⟩ | omega | (simp only [List.length_append, List.length_cons, List.length_nil]; omega) | (subst_vars; omega)) (fun it_12 h_it_12 => ?_)
            refine ⟨_, rfl, ?_⟩
            refine ⟨_, rfl, ?_⟩
            refine ixo_Way T (i := l_at_8) (SqL.of (h105 _ _ (Ow.at_mut (ne_of_none (h67 _ _ upd_same) h_p_4) (h94 _ _ (ne_of_none (h67 _ _ upd_same) h_p_4) (Ow.at_mut (ne_of_none (h67 _ _ upd_same) h_p_4) (Ow.at_mut (ne_of_none (h67 _ _ upd_same) h_p_4) (Ow.at_new h_p_4 (h67 _ _ upd_same)))))))) (h105 _ _ (Ow.at_mut (ne_of_none (h67 _ _ (Ow.at_mut (Ow.ne_sym (ne_of_none upd_same h2)) (h10 _ _ (Ow.at_mut (Ow.ne_sym (ne_of_none upd_same h2)) (h7 _ _ (Ow.at_mut (Ow.ne_sym (ne_of_none upd_same h2)) (h4 _ _ (Ow.at_mut (Ow.ne_sym (ne_of_none upd_same h2)) h3)))))))) h_p_4) (h94 _ _ (ne_of_none (h67 _ _ (Ow.at_mut (Ow.ne_sym (ne_of_none upd_same h2)) (h10 _ _ (Ow.at_mut (Ow.ne_sym (ne_of_none upd_same h2)) (h7 _ _ (Ow.at_mut (Ow.ne_sym (ne_of_none upd_same h2)) (h4 _ _ (Ow.at_mut (Ow.ne_sym (ne_of_none upd_same h2)) h3)))))))) h_p_4) (Ow.at_mut (ne_of_none (h67 _ _ (Ow.at_mut (Ow.ne_sym (ne_of_none upd_same h2)) (h10 _ _ (Ow.at_mut (Ow.ne_sym (ne_of_none upd_same h2)) (h7 _ _ (Ow.at_mut (Ow.ne_sym (ne_of_none upd_same h2)) (h4 _ _ (Ow.at_mut (Ow.ne_sym (ne_of_none upd_same h2)) h3)))))))) h_p_4) (Ow.at_mut (ne_of_none (h67 _ _ (Ow.at_mut (Ow.ne_sym (ne_of_none upd_same h2)) (h10 _ _ (Ow.at_mut (Ow.ne_sym (ne_of_none upd_same h2)) (h7 _ _ (Ow.at_mut (Ow.ne_sym (ne_of_none upd_same h2)) (h4 _ _ (Ow.at_mut (Ow.ne_sym (ne_of_none upd_same h2)) h3)))))))) h_p_4) (Ow.at_new h_p_4 (h67 _ _ (Ow.at_mut (Ow.ne_sym (ne_of_none upd_same h2)) (h10 _ _ (Ow.at_mut (Ow.ne_sym (ne_of_none upd_same h2)) (h7 _ _ (Ow.at_mut (Ow.ne_sym (ne_of_none upd_same h2)) (h4 _ _ (Ow.at_mut (Ow.ne_sym (ne_of_none upd_same h2)) h3)))))))))))))) (h105 _ _ (Ow.at_mut (ne_of_none (h67 _ _ (Ow.at_mut (Ow.ne_sym (ne_of_none upd_same h5)) (h10 _ _ (Ow.at_mut (Ow.ne_sym (ne_of_none upd_same h5)) (h7 _ _ (Ow.at_mut (Ow.ne_sym (ne_of_none upd_same h5)) h6)))))) h_p_4) (h94 _ _ (ne_of_none (h67 _ _ (Ow.at_mut (Ow.ne_sym (ne_of_none upd_same h5)) (h10 _ _ (Ow.at_mut (Ow.ne_sym (ne_of_none upd_same h5)) (h7 _ _ (Ow.at_mut (Ow.ne_sym (ne_of_none upd_same h5)) h6)))))) h_p_4) (Ow.at_mut (ne_of_none (h67 _ _ (Ow.at_mut (Ow.ne_sym (ne_of_none upd_same h5)) (h10 _ _ (Ow.at_mut (Ow.ne_sym (ne_of_none upd_same h5)) (h7 _ _ (Ow.at_mut (Ow.ne_sym (ne_of_none upd_same h5)) h6)))))) h_p_4) (Ow.at_mut (ne_of_none (h67 _ _ (Ow.at_mut (Ow.ne_sym (ne_of_none upd_same h5)) (h10 _ _ (Ow.at_mut (Ow.ne_sym (ne_of_none upd_same h5)) (h7 _ _ (Ow.at_mut (Ow.ne_sym (ne_of_none upd_same h5)) h6)))))) h_p_4) (Ow.at_new h_p_4 (h67 _ _ (Ow.at_mut (Ow.ne_sym (ne_of_none upd_same h5)) (h10 _ _ (Ow.at_mut (Ow.ne_sym (ne_of_none upd_same h5)) (h7 _ _ (Ow.at_mut (Ow.ne_sym (ne_of_none upd_same h5)) h6)))))))))))) (h105 _ _ (Ow.at_mut (ne_of_none (h67 _ _ (Ow.at_mut (Ow.ne_sym (ne_of_none upd_same h8)) (h10 _ _ (Ow.at_mut (Ow.ne_sym (ne_of_none upd_same h8)) h9)))) h_p_4) (h94 _ _ (ne_of_none (h67 _ _ (Ow.at_mut (Ow.ne_sym (ne_of_none upd_same h8)) (h10 _ _ (Ow.at_mut (Ow.ne_sym (ne_of_none upd_same h8)) h9)))) h_p_4) (Ow.at_mut (ne_of_none (h67 _ _ (Ow.at_mut (Ow.ne_sym (ne_of_none upd_same h8)) (h10 _ _ (Ow.at_mut (Ow.ne_sym (ne_of_none upd_same h8)) h9)))) h_p_4) (Ow.at_mut (ne_of_none (h67 _ _ (Ow.at_mut (Ow.ne_sym (ne_of_none upd_same h8)) (h10 _ _ (Ow.at_mut (Ow.ne_sym (ne_of_none upd_same h8)) h9)))) h_p_4) (Ow.at_new h_p_4 (h67 _ _ (Ow.at_mut (Ow.ne_sym (ne_of_none upd_same h8)) (h10 _ _ (Ow.at_mut (Ow.ne_sym (ne_of_none upd_same h8)) h9)))))))))) (h105 _ _ (Ow.at_mut (ne_of_none (h67 _ _ (Ow.at_mut (Ow.ne_sym (ne_of_none upd_same h11)) h12)) h_p_4) (h94 _ _ (ne_of_none (h67 _ _ (Ow.at_mut (Ow.ne_sym (ne_of_none upd_same h11)) h12)) h_p_4) (Ow.at_mut (ne_of_none (h67 _ _ (Ow.at_mut (Ow.ne_sym (ne_of_none upd_same h11)) h12)) h_p_4) (Ow.at_mut (ne_of_none (h67 _ _ (Ow.at_mut (Ow.ne_sym (ne_of_none upd_same h11)) h12)) h_p_4) (Ow.at_new h_p_4 (h67 _ _ (Ow.at_mut (Ow.ne_sym (ne_of_none upd_same h11)) h12)))))))) (by first | assumption | exact Ow.divw64 (by omega) (by omega) | exact Ow.mul0 ⟨by omega, by omega⟩ | exact Ow.mul1 ⟨by omega, by omega⟩ | exact Ow.shl0 (by omega) (by omega) (by omega) | exact ⟨by omega, by omega⟩ | exact ⟨by omega, by omega, by omega⟩ | omega | (simp only [List.length_append, List.length_cons, List.length_nil]; omega) | (subst_vars; omega)) (fun wy_12 o_20 dx_20 h_wy_12 h_o_20 => ?_)
            have hw_wy_12 : it_12 = Ow.wrd_Way wy_12 := by rcases h_it_12 with ⟨hz, rfl⟩ | ⟨hz, rfl⟩ | ⟨hz, rfl⟩ | ⟨hz, rfl⟩ <;> cases wy_12 <;> first | rfl | (exfalso; simp only [ix_Way] at h_wy_12; omega)
            refine ⟨_, rfl, ?_⟩
            refine ⟨_, _, rfl, rfl, ?_⟩
            refine ⟨_, rfl, ?_⟩
            refine ⟨_, rfl, ?_⟩
            refine ⟨_, rfl, ?_⟩
            refine ⟨_, _, rfl, rfl, ?_⟩
            refine ⟨_, _, _, _, _, _, wy_12, _, rfl, (by first | assumption | exact Ow.divw64 (by omega) (by omega) | exact Ow.mul0 ⟨by omega, by omega⟩ | exact Ow.mul1 ⟨by omega, by omega⟩ | exact Ow.shl0 (by omega) (by omega) (by omega) | exact ⟨by omega, by omega⟩ | exact ⟨by omega, by omega, by omega⟩ | omega | (simp only [List.length_append, List.length_cons, List.length_nil]; omega) | (subst_vars; omega)), h_o_20, (by first | assumption | exact Ow.divw64 (by omega) (by omega) | exact Ow.mul0 ⟨by omega, by omega⟩ | exact Ow.mul1 ⟨by omega, by omega⟩ | exact Ow.shl0 (by omega) (by omega) (by omega) | exact ⟨by omega, by omega⟩ | exact ⟨by omega, by omega, by omega⟩ | omega | (simp only [List.length_append, List.length_cons, List.length_nil]; omega) | (subst_vars; omega)), (by first | assumption | exact Ow.divw64 (by omega) (by omega) | exact Ow.mul0 ⟨by omega, by omega⟩ | exact Ow.mul1 ⟨by omega, by omega⟩ | exact Ow.shl0 (by omega) (by omega) (by omega) | exact ⟨by omega, by omega⟩ | exact ⟨by omega, by omega, by omega⟩ | omega | (simp only [List.length_append, List.length_cons, List.length_nil]; omega) | (subst_vars; omega)), (by first | assumption | exact Ow.divw64 (by omega) (by omega) | exact Ow.mul0 ⟨by omega, by omega⟩ | exact Ow.mul1 ⟨by omega, by omega⟩ | exact Ow.shl0 (by omega) (by omega) (by omega) | exact ⟨by omega, by omega⟩ | exact ⟨by omega, by omega, by omega⟩ | omega | (simp only [List.length_append, List.length_cons, List.length_nil]; omega) | (subst_vars; omega)), (Ow.Sz.mono (Ow.Sz.add (Ow.Sz.abs h90 h_ab_6) (Ow.Sz.mono (Ow.Sz.lit (n := 1) (i := 1) (by decide)) (by decide : 1 ≤ 2340))) (by decide : 2341 ≤ 2350)), h93, (Ow.Sz.abs h69 h_ab_4), fun Hn_31 h106 => ?_⟩
            refine ⟨_, rfl, ?_⟩
            refine iteF ?_
            exact ⟨_, _, _, _, _, _, _, _, _, _, rfl, (((Ow.same_mut (Ow.same_frame (Ow.same_mut (Ow.same_mut (h67.trans (Ow.same_new h_p_4)) (Same.free h67 h_p_4)) (Same.free h67 h_p_4)) h94 (Same.free h67 h_p_4)) (Same.free h67 h_p_4)).trans h105).trans h106)⟩
      · rintro _ Hn_32 ⟨_, _, _, _, _, _, _, _, _, _, rfl, h107⟩
        exact kont _ ((Ow.same_mut ((Ow.same_mut ((Ow.same_mut ((Ow.same_mut (((Ow.same_new h_p).trans (Ow.same_new h_D)).trans h1) (Same.free (Ow.same_new h_p) h_D)).trans h4) (Same.free (Ow.same_new h_p) h_D)).trans h7) (Same.free (Ow.same_new h_p) h_D)).trans h10) (Same.free (Ow.same_new h_p) h_D)).trans h107)
end
def tx_mk {K : PySem.W.Frag} {h : Heap} {mg : Str → Option Value} (X : K.In h) (G : h.Ns mainGlobals mg) {K_Cut : Addr} {K_Down : Addr} {K_Near : Addr} {K_Up : Addr}     {f_all_ways : Addr} {od_all_ways an_all_ways : Option Addr} {oc_all_ways kV_all_ways dc_all_ways pm_all_ways cd_all_ways ct_all_ways : Value} {sl_all_ways : Array (Option Value)} {f_way_of : Addr} {od_way_of an_way_of : Option Addr} {oc_way_of kV_way_of dc_way_of pm_way_of cd_way_of ct_way_of : Value} {sl_way_of : Array (Option Value)} {f_l_begun : Addr} {od_l_begun an_l_begun : Option Addr} {oc_l_begun kV_l_begun dc_l_begun pm_l_begun cd_l_begun ct_l_begun : Value} {sl_l_begun : Array (Option Value)} {f_l_draw : Addr} {od_l_draw an_l_draw : Option Addr} {oc_l_draw kV_l_draw dc_l_draw pm_l_draw cd_l_draw ct_l_draw : Value} {sl_l_draw : Array (Option Value)} {f_l_number : Addr} {od_l_number an_l_number : Option Addr} {oc_l_number kV_l_number dc_l_number pm_l_number cd_l_number ct_l_number : Value} {sl_l_number : Array (Option Value)} {f_l_rest : Addr} {od_l_rest an_l_rest : Option Addr} {oc_l_rest kV_l_rest dc_l_rest pm_l_rest cd_l_rest ct_l_rest : Value} {sl_l_rest : Array (Option Value)} {f_l_cell : Addr} {od_l_cell an_l_cell : Option Addr} {oc_l_cell kV_l_cell dc_l_cell pm_l_cell cd_l_cell ct_l_cell : Value} {sl_l_cell : Array (Option Value)} {f_Down_adjust : Addr} {od_Down_adjust an_Down_adjust : Option Addr} {oc_Down_adjust kV_Down_adjust dc_Down_adjust pm_Down_adjust cd_Down_adjust ct_Down_adjust : Value} {sl_Down_adjust : Array (Option Value)}  {f_Up_adjust : Addr} {od_Up_adjust an_Up_adjust : Option Addr} {oc_Up_adjust kV_Up_adjust dc_Up_adjust pm_Up_adjust cd_Up_adjust ct_Up_adjust : Value} {sl_Up_adjust : Array (Option Value)}  {f_Way_adjust : Addr} {od_Way_adjust an_Way_adjust : Option Addr} {oc_Way_adjust kV_Way_adjust dc_Way_adjust pm_Way_adjust cd_Way_adjust ct_Way_adjust : Value} {sl_Way_adjust : Array (Option Value)}  {f_Near_adjust : Addr} {od_Near_adjust an_Near_adjust : Option Addr} {oc_Near_adjust kV_Near_adjust dc_Near_adjust pm_Near_adjust cd_Near_adjust ct_Near_adjust : Value} {sl_Near_adjust : Array (Option Value)}  {f_l_right : Addr} {od_l_right an_l_right : Option Addr} {oc_l_right kV_l_right dc_l_right pm_l_right cd_l_right ct_l_right : Value} {sl_l_right : Array (Option Value)} {f_l_asked : Addr} {od_l_asked an_l_asked : Option Addr} {oc_l_asked kV_l_asked dc_l_asked pm_l_asked cd_l_asked ct_l_asked : Value} {sl_l_asked : Array (Option Value)} {f_Way_rounded : Addr} {od_Way_rounded an_Way_rounded : Option Addr} {oc_Way_rounded kV_Way_rounded dc_Way_rounded pm_Way_rounded cd_Way_rounded ct_Way_rounded : Value} {sl_Way_rounded : Array (Option Value)}     {f_law : Addr} {od_law an_law : Option Addr} {oc_law kV_law dc_law pm_law cd_law ct_law : Value} {sl_law : Array (Option Value)}          
    (ak_Cut : PySem.W.nsIn K mainGlobals "Cut" = some (some (.ref K_Cut)))
    (kp_Cut : PySem.W.plainGet K K_Cut Str.empty = true)
    (kh_Cut : PySem.W.hasDictIn K K_Cut = true)
    (ko_Cut : PySem.W.plainOver K K_Cut = true)
    (ks_Cut : PySem.W.findIn K (.ref K_Cut) "__setattr__" = some (some (.builtin "object.__setattr__")))
    (ak_Down : PySem.W.nsIn K mainGlobals "Down" = some (some (.ref K_Down)))
    (kp_Down : PySem.W.plainGet K K_Down Str.empty = true)
    (kh_Down : PySem.W.hasDictIn K K_Down = true)
    (ko_Down : PySem.W.plainOver K K_Down = true)
    (ks_Down : PySem.W.findIn K (.ref K_Down) "__setattr__" = some (some (.builtin "object.__setattr__")))
    (ak_Near : PySem.W.nsIn K mainGlobals "Near" = some (some (.ref K_Near)))
    (kp_Near : PySem.W.plainGet K K_Near Str.empty = true)
    (kh_Near : PySem.W.hasDictIn K K_Near = true)
    (ko_Near : PySem.W.plainOver K K_Near = true)
    (ks_Near : PySem.W.findIn K (.ref K_Near) "__setattr__" = some (some (.builtin "object.__setattr__")))
    (ak_Up : PySem.W.nsIn K mainGlobals "Up" = some (some (.ref K_Up)))
    (kp_Up : PySem.W.plainGet K K_Up Str.empty = true)
    (kh_Up : PySem.W.hasDictIn K K_Up = true)
    (ko_Up : PySem.W.plainOver K K_Up = true)
    (ks_Up : PySem.W.findIn K (.ref K_Up) "__setattr__" = some (some (.builtin "object.__setattr__")))
    (km_Cut : PySem.W.makesIn K K_Cut = true)
    (ki_Cut : PySem.W.findIn K (.ref K_Cut) "__init__" = some (some (.builtin "object.__init__")))
    (kt_Cut : PySem.W.mroIn K K_Cut (.type "object") = some true)
    (kk_Cut : PySem.W.keepIn K (.ref K_Cut) = true)
    (km_Down : PySem.W.makesIn K K_Down = true)
    (ki_Down : PySem.W.findIn K (.ref K_Down) "__init__" = some (some (.builtin "object.__init__")))
    (kt_Down : PySem.W.mroIn K K_Down (.type "object") = some true)
    (kk_Down : PySem.W.keepIn K (.ref K_Down) = true)
    (km_Near : PySem.W.makesIn K K_Near = true)
    (ki_Near : PySem.W.findIn K (.ref K_Near) "__init__" = some (some (.builtin "object.__init__")))
    (kt_Near : PySem.W.mroIn K K_Near (.type "object") = some true)
    (kk_Near : PySem.W.keepIn K (.ref K_Near) = true)
    (km_Up : PySem.W.makesIn K K_Up = true)
    (ki_Up : PySem.W.findIn K (.ref K_Up) "__init__" = some (some (.builtin "object.__init__")))
    (kt_Up : PySem.W.mroIn K K_Up (.type "object") = some true)
    (kk_Up : PySem.W.keepIn K (.ref K_Up) = true)
    (a_all_ways : PySem.W.nsIn K mainGlobals "all_ways" = some (some (.ref f_all_ways)))
    (l_all_ways : K.lookup f_all_ways = some ⟨oc_all_ways, od_all_ways, .func (PySem.W.fnOf "all_ways" "all_ways" (defArgs s_all_ways) (defBody s_all_ways) (defScope s_all_ways) .none kV_all_ways dc_all_ways pm_all_ways an_all_ways cd_all_ways ct_all_ways), sl_all_ways⟩)
    (c_all_ways : PySem.W.codeIn K cd_all_ways "all_ways" = true)
    (k_all_ways : PySem.W.keepIn K (.ref f_all_ways) = true)
    (a_way_of : PySem.W.nsIn K mainGlobals "way_of" = some (some (.ref f_way_of)))
    (l_way_of : K.lookup f_way_of = some ⟨oc_way_of, od_way_of, .func (PySem.W.fnOf "way_of" "way_of" (defArgs s_way_of) (defBody s_way_of) (defScope s_way_of) .none kV_way_of dc_way_of pm_way_of an_way_of cd_way_of ct_way_of), sl_way_of⟩)
    (c_way_of : PySem.W.codeIn K cd_way_of "way_of" = true)
    (k_way_of : PySem.W.keepIn K (.ref f_way_of) = true)
    (a_l_begun : PySem.W.nsIn K mainGlobals "_law_begun" = some (some (.ref f_l_begun)))
    (l_l_begun : K.lookup f_l_begun = some ⟨oc_l_begun, od_l_begun, .func (PySem.W.fnOf "_law_begun" "_law_begun" (defArgs s_l_begun) (defBody s_l_begun) (defScope s_l_begun) .none kV_l_begun dc_l_begun pm_l_begun an_l_begun cd_l_begun ct_l_begun), sl_l_begun⟩)
    (c_l_begun : PySem.W.codeIn K cd_l_begun "_law_begun" = true)
    (k_l_begun : PySem.W.keepIn K (.ref f_l_begun) = true)
    (a_l_draw : PySem.W.nsIn K mainGlobals "_law_draw" = some (some (.ref f_l_draw)))
    (l_l_draw : K.lookup f_l_draw = some ⟨oc_l_draw, od_l_draw, .func (PySem.W.fnOf "_law_draw" "_law_draw" (defArgs s_l_draw) (defBody s_l_draw) (defScope s_l_draw) .none kV_l_draw dc_l_draw pm_l_draw an_l_draw cd_l_draw ct_l_draw), sl_l_draw⟩)
    (c_l_draw : PySem.W.codeIn K cd_l_draw "_law_draw" = true)
    (k_l_draw : PySem.W.keepIn K (.ref f_l_draw) = true)
    (a_l_number : PySem.W.nsIn K mainGlobals "_law_number" = some (some (.ref f_l_number)))
    (l_l_number : K.lookup f_l_number = some ⟨oc_l_number, od_l_number, .func (PySem.W.fnOf "_law_number" "_law_number" (defArgs s_l_number) (defBody s_l_number) (defScope s_l_number) .none kV_l_number dc_l_number pm_l_number an_l_number cd_l_number ct_l_number), sl_l_number⟩)
    (c_l_number : PySem.W.codeIn K cd_l_number "_law_number" = true)
    (k_l_number : PySem.W.keepIn K (.ref f_l_number) = true)
    (a_l_rest : PySem.W.nsIn K mainGlobals "_law_rest" = some (some (.ref f_l_rest)))
    (l_l_rest : K.lookup f_l_rest = some ⟨oc_l_rest, od_l_rest, .func (PySem.W.fnOf "_law_rest" "_law_rest" (defArgs s_l_rest) (defBody s_l_rest) (defScope s_l_rest) .none kV_l_rest dc_l_rest pm_l_rest an_l_rest cd_l_rest ct_l_rest), sl_l_rest⟩)
    (c_l_rest : PySem.W.codeIn K cd_l_rest "_law_rest" = true)
    (k_l_rest : PySem.W.keepIn K (.ref f_l_rest) = true)
    (a_l_cell : PySem.W.nsIn K mainGlobals "_law_cell" = some (some (.ref f_l_cell)))
    (l_l_cell : K.lookup f_l_cell = some ⟨oc_l_cell, od_l_cell, .func (PySem.W.fnOf "_law_cell" "_law_cell" (defArgs s_l_cell) (defBody s_l_cell) (defScope s_l_cell) .none kV_l_cell dc_l_cell pm_l_cell an_l_cell cd_l_cell ct_l_cell), sl_l_cell⟩)
    (c_l_cell : PySem.W.codeIn K cd_l_cell "_law_cell" = true)
    (k_l_cell : PySem.W.keepIn K (.ref f_l_cell) = true)
    (l_Down_adjust : K.lookup f_Down_adjust = some ⟨oc_Down_adjust, od_Down_adjust, .func (PySem.W.fnOf "adjust" "Down.adjust" (defArgs s_Down_adjust) (defBody s_Down_adjust) (defScope s_Down_adjust) .none kV_Down_adjust dc_Down_adjust pm_Down_adjust an_Down_adjust cd_Down_adjust ct_Down_adjust), sl_Down_adjust⟩)
    (c_Down_adjust : PySem.W.codeIn K cd_Down_adjust "Down.adjust" = true)
    (k_Down_adjust : PySem.W.keepIn K (.ref f_Down_adjust) = true)
    (ma_Down_adjust : PySem.W.findIn K (.ref K_Down) "adjust" = some (some (.ref f_Down_adjust)))
    (mf_Down_adjust : PySem.W.isFn K (.ref f_Down_adjust) = true)
    (l_Up_adjust : K.lookup f_Up_adjust = some ⟨oc_Up_adjust, od_Up_adjust, .func (PySem.W.fnOf "adjust" "Up.adjust" (defArgs s_Up_adjust) (defBody s_Up_adjust) (defScope s_Up_adjust) .none kV_Up_adjust dc_Up_adjust pm_Up_adjust an_Up_adjust cd_Up_adjust ct_Up_adjust), sl_Up_adjust⟩)
    (c_Up_adjust : PySem.W.codeIn K cd_Up_adjust "Up.adjust" = true)
    (k_Up_adjust : PySem.W.keepIn K (.ref f_Up_adjust) = true)
    (ma_Up_adjust : PySem.W.findIn K (.ref K_Up) "adjust" = some (some (.ref f_Up_adjust)))
    (mf_Up_adjust : PySem.W.isFn K (.ref f_Up_adjust) = true)
    (l_Way_adjust : K.lookup f_Way_adjust = some ⟨oc_Way_adjust, od_Way_adjust, .func (PySem.W.fnOf "adjust" "Way.adjust" (defArgs s_Way_adjust) (defBody s_Way_adjust) (defScope s_Way_adjust) .none kV_Way_adjust dc_Way_adjust pm_Way_adjust an_Way_adjust cd_Way_adjust ct_Way_adjust), sl_Way_adjust⟩)
    (c_Way_adjust : PySem.W.codeIn K cd_Way_adjust "Way.adjust" = true)
    (k_Way_adjust : PySem.W.keepIn K (.ref f_Way_adjust) = true)
    (ma_Cut_adjust : PySem.W.findIn K (.ref K_Cut) "adjust" = some (some (.ref f_Way_adjust)))
    (mf_Cut_adjust : PySem.W.isFn K (.ref f_Way_adjust) = true)
    (l_Near_adjust : K.lookup f_Near_adjust = some ⟨oc_Near_adjust, od_Near_adjust, .func (PySem.W.fnOf "adjust" "Near.adjust" (defArgs s_Near_adjust) (defBody s_Near_adjust) (defScope s_Near_adjust) .none kV_Near_adjust dc_Near_adjust pm_Near_adjust an_Near_adjust cd_Near_adjust ct_Near_adjust), sl_Near_adjust⟩)
    (c_Near_adjust : PySem.W.codeIn K cd_Near_adjust "Near.adjust" = true)
    (k_Near_adjust : PySem.W.keepIn K (.ref f_Near_adjust) = true)
    (ma_Near_adjust : PySem.W.findIn K (.ref K_Near) "adjust" = some (some (.ref f_Near_adjust)))
    (mf_Near_adjust : PySem.W.isFn K (.ref f_Near_adjust) = true)
    (a_l_right : PySem.W.nsIn K mainGlobals "_law_right" = some (some (.ref f_l_right)))
    (l_l_right : K.lookup f_l_right = some ⟨oc_l_right, od_l_right, .func (PySem.W.fnOf "_law_right" "_law_right" (defArgs s_l_right) (defBody s_l_right) (defScope s_l_right) .none kV_l_right dc_l_right pm_l_right an_l_right cd_l_right ct_l_right), sl_l_right⟩)
    (c_l_right : PySem.W.codeIn K cd_l_right "_law_right" = true)
    (k_l_right : PySem.W.keepIn K (.ref f_l_right) = true)
    (a_l_asked : PySem.W.nsIn K mainGlobals "_law_asked" = some (some (.ref f_l_asked)))
    (l_l_asked : K.lookup f_l_asked = some ⟨oc_l_asked, od_l_asked, .func (PySem.W.fnOf "_law_asked" "_law_asked" (defArgs s_l_asked) (defBody s_l_asked) (defScope s_l_asked) .none kV_l_asked dc_l_asked pm_l_asked an_l_asked cd_l_asked ct_l_asked), sl_l_asked⟩)
    (c_l_asked : PySem.W.codeIn K cd_l_asked "_law_asked" = true)
    (k_l_asked : PySem.W.keepIn K (.ref f_l_asked) = true)
    (l_Way_rounded : K.lookup f_Way_rounded = some ⟨oc_Way_rounded, od_Way_rounded, .func (PySem.W.fnOf "rounded" "Way.rounded" (defArgs s_Way_rounded) (defBody s_Way_rounded) (defScope s_Way_rounded) .none kV_Way_rounded dc_Way_rounded pm_Way_rounded an_Way_rounded cd_Way_rounded ct_Way_rounded), sl_Way_rounded⟩)
    (c_Way_rounded : PySem.W.codeIn K cd_Way_rounded "Way.rounded" = true)
    (k_Way_rounded : PySem.W.keepIn K (.ref f_Way_rounded) = true)
    (ma_Cut_rounded : PySem.W.findIn K (.ref K_Cut) "rounded" = some (some (.ref f_Way_rounded)))
    (mf_Cut_rounded : PySem.W.isFn K (.ref f_Way_rounded) = true)
    (ma_Down_rounded : PySem.W.findIn K (.ref K_Down) "rounded" = some (some (.ref f_Way_rounded)))
    (mf_Down_rounded : PySem.W.isFn K (.ref f_Way_rounded) = true)
    (ma_Near_rounded : PySem.W.findIn K (.ref K_Near) "rounded" = some (some (.ref f_Way_rounded)))
    (mf_Near_rounded : PySem.W.isFn K (.ref f_Way_rounded) = true)
    (ma_Up_rounded : PySem.W.findIn K (.ref K_Up) "rounded" = some (some (.ref f_Way_rounded)))
    (mf_Up_rounded : PySem.W.isFn K (.ref f_Way_rounded) = true)
    (a_law : PySem.W.nsIn K mainGlobals "law" = some (some (.ref f_law)))
    (l_law : K.lookup f_law = some ⟨oc_law, od_law, .func (PySem.W.fnOf "law" "law" (defArgs s_law) (defBody s_law) (defScope s_law) .none kV_law dc_law pm_law an_law cd_law ct_law), sl_law⟩)
    (c_law : PySem.W.codeIn K cd_law "law" = true)
    (k_law : PySem.W.keepIn K (.ref f_law) = true)
    (zz_isinstance : PySem.W.nsIn K mainGlobals "isinstance" = some none)
    (zz_str : PySem.W.nsIn K mainGlobals "str" = some none)
    (zz_max : PySem.W.nsIn K mainGlobals "max" = some none)
    (zz_min : PySem.W.nsIn K mainGlobals "min" = some none)
    (zz_abs : PySem.W.nsIn K mainGlobals "abs" = some none)
    (zz_len : PySem.W.nsIn K mainGlobals "len" = some none)
    (zz_bool : PySem.W.nsIn K mainGlobals "bool" = some none)
    (zz_int : PySem.W.nsIn K mainGlobals "int" = some none)
    (zz_divmod : PySem.W.nsIn K mainGlobals "divmod" = some none)
    (zz_range : PySem.W.nsIn K mainGlobals "range" = some none) : Tx K mg where
  k_Cut := ⟨K_Cut, PySem.W.mg_of X G ak_Cut, ⟨kp_Cut, kh_Cut, ko_Cut, ks_Cut⟩⟩
  k_Down := ⟨K_Down, PySem.W.mg_of X G ak_Down, ⟨kp_Down, kh_Down, ko_Down, ks_Down⟩⟩
  k_Near := ⟨K_Near, PySem.W.mg_of X G ak_Near, ⟨kp_Near, kh_Near, ko_Near, ks_Near⟩⟩
  k_Up := ⟨K_Up, PySem.W.mg_of X G ak_Up, ⟨kp_Up, kh_Up, ko_Up, ks_Up⟩⟩
  m0_Cut := ⟨km_Cut, ki_Cut, kt_Cut, kk_Cut⟩
  m0_Down := ⟨km_Down, ki_Down, kt_Down, kk_Down⟩
  m0_Near := ⟨km_Near, ki_Near, kt_Near, kk_Near⟩
  m0_Up := ⟨km_Up, ki_Up, kt_Up, kk_Up⟩
  d_all_ways := ⟨f_all_ways, _, fun_mk (st := s_all_ways) l_all_ways c_all_ways k_all_ways, (fun_mk (st := s_all_ways) l_all_ways c_all_ways k_all_ways).binds fun _ _ _ _ _ _ us hl => match us, hl with | [], _ => rfl, PySem.W.mg_of X G a_all_ways⟩
  d_way_of := ⟨f_way_of, _, fun_mk (st := s_way_of) l_way_of c_way_of k_way_of, (fun_mk (st := s_way_of) l_way_of c_way_of k_way_of).binds fun _ _ _ _ _ _ us hl => match us, hl with | [_], _ => rfl, PySem.W.mg_of X G a_way_of⟩
  d_l_begun := ⟨f_l_begun, _, fun_mk (st := s_l_begun) l_l_begun c_l_begun k_l_begun, (fun_mk (st := s_l_begun) l_l_begun c_l_begun k_l_begun).binds fun _ _ _ _ _ _ us hl => match us, hl with | [_], _ => rfl, PySem.W.mg_of X G a_l_begun⟩
  d_l_draw := ⟨f_l_draw, _, fun_mk (st := s_l_draw) l_l_draw c_l_draw k_l_draw, (fun_mk (st := s_l_draw) l_l_draw c_l_draw k_l_draw).binds fun _ _ _ _ _ _ us hl => match us, hl with | [_, _], _ => rfl, PySem.W.mg_of X G a_l_draw⟩
  d_l_number := ⟨f_l_number, _, fun_mk (st := s_l_number) l_l_number c_l_number k_l_number, (fun_mk (st := s_l_number) l_l_number c_l_number k_l_number).binds fun _ _ _ _ _ _ us hl => match us, hl with | [_], _ => rfl, PySem.W.mg_of X G a_l_number⟩
  d_l_rest := ⟨f_l_rest, _, fun_mk (st := s_l_rest) l_l_rest c_l_rest k_l_rest, (fun_mk (st := s_l_rest) l_l_rest c_l_rest k_l_rest).binds fun _ _ _ _ _ _ us hl => match us, hl with | [_, _], _ => rfl, PySem.W.mg_of X G a_l_rest⟩
  d_l_cell := ⟨f_l_cell, _, fun_mk (st := s_l_cell) l_l_cell c_l_cell k_l_cell, (fun_mk (st := s_l_cell) l_l_cell c_l_cell k_l_cell).binds fun _ _ _ _ _ _ us hl => match us, hl with | [_, _], _ => rfl, PySem.W.mg_of X G a_l_cell⟩
  d_Down_adjust := ⟨f_Down_adjust, _, fun_mk (st := s_Down_adjust) l_Down_adjust c_Down_adjust k_Down_adjust, (fun_mk (st := s_Down_adjust) l_Down_adjust c_Down_adjust k_Down_adjust).binds fun _ _ _ _ _ _ us hl => match us, hl with | [_, _, _, _, _], _ => rfl⟩
  mt_Down_adjust := ⟨ma_Down_adjust, mf_Down_adjust, k_Down_adjust⟩
  d_Up_adjust := ⟨f_Up_adjust, _, fun_mk (st := s_Up_adjust) l_Up_adjust c_Up_adjust k_Up_adjust, (fun_mk (st := s_Up_adjust) l_Up_adjust c_Up_adjust k_Up_adjust).binds fun _ _ _ _ _ _ us hl => match us, hl with | [_, _, _, _, _], _ => rfl⟩
  mt_Up_adjust := ⟨ma_Up_adjust, mf_Up_adjust, k_Up_adjust⟩
  d_Way_adjust := ⟨f_Way_adjust, _, fun_mk (st := s_Way_adjust) l_Way_adjust c_Way_adjust k_Way_adjust, (fun_mk (st := s_Way_adjust) l_Way_adjust c_Way_adjust k_Way_adjust).binds fun _ _ _ _ _ _ us hl => match us, hl with | [_, _, _, _, _], _ => rfl⟩
  mt_Cut_adjust := ⟨ma_Cut_adjust, mf_Cut_adjust, k_Way_adjust⟩
  d_Near_adjust := ⟨f_Near_adjust, _, fun_mk (st := s_Near_adjust) l_Near_adjust c_Near_adjust k_Near_adjust, (fun_mk (st := s_Near_adjust) l_Near_adjust c_Near_adjust k_Near_adjust).binds fun _ _ _ _ _ _ us hl => match us, hl with | [_, _, _, _, _], _ => rfl⟩
  mt_Near_adjust := ⟨ma_Near_adjust, mf_Near_adjust, k_Near_adjust⟩
  d_l_right := ⟨f_l_right, _, fun_mk (st := s_l_right) l_l_right c_l_right k_l_right, (fun_mk (st := s_l_right) l_l_right c_l_right k_l_right).binds fun _ _ _ _ _ _ us hl => match us, hl with | [_, _, _, _], _ => rfl, PySem.W.mg_of X G a_l_right⟩
  d_l_asked := ⟨f_l_asked, _, fun_mk (st := s_l_asked) l_l_asked c_l_asked k_l_asked, (fun_mk (st := s_l_asked) l_l_asked c_l_asked k_l_asked).binds fun _ _ _ _ _ _ us hl => match us, hl with | [_, _, _, _, _, _], _ => rfl, PySem.W.mg_of X G a_l_asked⟩
  d_Way_rounded := ⟨f_Way_rounded, _, fun_mk (st := s_Way_rounded) l_Way_rounded c_Way_rounded k_Way_rounded, (fun_mk (st := s_Way_rounded) l_Way_rounded c_Way_rounded k_Way_rounded).binds fun _ _ _ _ _ _ us hl => match us, hl with | [_, _, _], _ => rfl⟩
  mt_Cut_rounded := ⟨ma_Cut_rounded, mf_Cut_rounded, k_Way_rounded⟩
  mt_Down_rounded := ⟨ma_Down_rounded, mf_Down_rounded, k_Way_rounded⟩
  mt_Near_rounded := ⟨ma_Near_rounded, mf_Near_rounded, k_Way_rounded⟩
  mt_Up_rounded := ⟨ma_Up_rounded, mf_Up_rounded, k_Way_rounded⟩
  d_law := ⟨f_law, _, fun_mk (st := s_law) l_law c_law k_law, (fun_mk (st := s_law) l_law c_law k_law).binds fun _ _ _ _ _ _ us hl => match us, hl with | [_], _ => rfl, PySem.W.mg_of X G a_law⟩
  z_isinstance := PySem.W.mg_none_of X G zz_isinstance
  z_str := PySem.W.mg_none_of X G zz_str
  z_max := PySem.W.mg_none_of X G zz_max
  z_min := PySem.W.mg_none_of X G zz_min
  z_abs := PySem.W.mg_none_of X G zz_abs
  z_len := PySem.W.mg_none_of X G zz_len
  z_bool := PySem.W.mg_none_of X G zz_bool
  z_int := PySem.W.mg_none_of X G zz_int
  z_divmod := PySem.W.mg_none_of X G zz_divmod
  z_range := PySem.W.mg_none_of X G zz_range
theorem all_mk {l : PySem.W.OpenLaw} {w : World} {K : PySem.W.Frag} {h : Heap} {mg : Str → Option Value} {fa : Addr} (hfa : mg "law" = some (.ref fa)) (T : Tx K mg) :
    ∃ fd : FuncData, (∀ (s : Shared) (v : Value), BindsTo s fd ⟨[v], []⟩ [("_law_script", v)]) ∧ ∀ base : Heap, K.In base → base.Ns mainGlobals mg → FnOk l.prog w K mg base CX0 4 fa fd ["_law_script"] (sp_law K) := by
  have e := hfa.symm.trans T.d_law.m
  cases e
  refine ⟨T.d_law.fd, fun s v => ?_, fun base _ _ => ok_law T⟩
  obtain ⟨oc, od, kV, doc, pm, an, cdv, ct, osl, e, _, _⟩ := T.d_law.F.ex
  rw [e]
  exact .of_eq rfl
theorem walk {l : PySem.W.OpenLaw} {q : Program} {loose : List Str} {XP : (Str → Option Value) → Heap → Prop} {YP : World → Heap → Prop} {d : DefRec} {K : Params → PySem.W.Frag} (hn : l.most = some 63) (hdf : d.params.defaults = [])
    (hY : ∀ (w : World) (h : Heap), YP w h → (K w.params).In h)
    (F : ∀ (w : World) (mg : Str → Option Value) (fa : Addr) (h : Heap), (K w.params).In h → h.Ns mainGlobals mg → mg d.name = some (.ref fa) →
      ∃ fd : FuncData, (∀ (s : Shared) (u : Value), BindsTo s fd ⟨[u], []⟩ [("_law_script", u)]) ∧ ∀ base : Heap, (K w.params).In base → base.Ns mainGlobals mg → FnOk l.prog w (K w.params) mg base CX0 4 fa fd ["_law_script"] (sp_law (K w.params))) :
    PySem.W.WalkO q loose XP YP l.row.toRowW d [] (fun f vs => PySem.call f vs) :=
  L2.walk_of (n := 63) (k := 4) (x := "_law_script") (CX := fun _ => CX0) (sp := fun w => sp_law (K w.params)) hn (by decide) hdf ⟨rfl, by decide, by decide⟩ hY F (fun _ _ a ns hl _ hS => ⟨a, ns, rfl, hS, hl, fun _ _ => rfl⟩) fun _ _ _ _ _ z => z
end Ow
open PySem PySem.W PyProof.Rows
set_option maxRecDepth 100000 in
set_option maxHeartbeats 0 in
theorem PySem.Challenge.cw_overwise_k15_adjusted_holds : PySem.Challenge.rw_overwise_k15_adjusted.Holds := by
  w_on; o_law; k_head; (case hw => w_witness2)
  k_fill
  refine _root_.Ow.walk (l := PySem.Challenge.rw_overwise_k15_adjusted) rfl rfl (fun w h Y => PySem.W.kIn_of Y) ?F
  case F =>
    intro w mg fa h KX G hmg
    refine' _root_.Ow.all_mk (h := h) hmg (_root_.Ow.tx_mk KX G ?ak_Cut ?kp_Cut ?kh_Cut ?ko_Cut ?ks_Cut ?ak_Down ?kp_Down ?kh_Down ?ko_Down ?ks_Down ?ak_Near ?kp_Near ?kh_Near ?ko_Near ?ks_Near ?ak_Up ?kp_Up ?kh_Up ?ko_Up ?ks_Up ?km_Cut ?ki_Cut ?kt_Cut ?kk_Cut ?km_Down ?ki_Down ?kt_Down ?kk_Down ?km_Near ?ki_Near ?kt_Near ?kk_Near ?km_Up ?ki_Up ?kt_Up ?kk_Up ?a_all_ways ?l_all_ways ?c_all_ways ?k_all_ways ?a_way_of ?l_way_of ?c_way_of ?k_way_of ?a_l_begun ?l_l_begun ?c_l_begun ?k_l_begun ?a_l_draw ?l_l_draw ?c_l_draw ?k_l_draw ?a_l_number ?l_l_number ?c_l_number ?k_l_number ?a_l_rest ?l_l_rest ?c_l_rest ?k_l_rest ?a_l_cell ?l_l_cell ?c_l_cell ?k_l_cell ?l_Down_adjust ?c_Down_adjust ?k_Down_adjust ?ma_Down_adjust ?mf_Down_adjust ?l_Up_adjust ?c_Up_adjust ?k_Up_adjust ?ma_Up_adjust ?mf_Up_adjust ?l_Way_adjust ?c_Way_adjust ?k_Way_adjust ?ma_Cut_adjust ?mf_Cut_adjust ?l_Near_adjust ?c_Near_adjust ?k_Near_adjust ?ma_Near_adjust ?mf_Near_adjust ?a_l_right ?l_l_right ?c_l_right ?k_l_right ?a_l_asked ?l_l_asked ?c_l_asked ?k_l_asked ?l_Way_rounded ?c_Way_rounded ?k_Way_rounded ?ma_Cut_rounded ?mf_Cut_rounded ?ma_Down_rounded ?mf_Down_rounded ?ma_Near_rounded ?mf_Near_rounded ?ma_Up_rounded ?mf_Up_rounded ?a_law ?l_law ?c_law ?k_law ?zz_isinstance ?zz_str ?zz_max ?zz_min ?zz_abs ?zz_len ?zz_bool ?zz_int ?zz_divmod ?zz_range)
    (case ak_Cut => k_is)
    (case kp_Cut => k_is)
    (case ak_Down => k_is)
    (case kp_Down => k_is)
    (case ak_Near => k_is)
    (case kp_Near => k_is)
    (case ak_Up => k_is)
    (case kp_Up => k_is)
    (case ma_Down_adjust => k_is)
    (case ma_Up_adjust => k_is)
    (case ma_Cut_adjust => k_is)
    (case ma_Near_adjust => k_is)
    (case ma_Cut_rounded => k_is)
    (case ma_Down_rounded => k_is)
    (case ma_Near_rounded => k_is)
    (case ma_Up_rounded => k_is)
    (case kh_Cut => k_is)
    (case ko_Cut => k_is)
    (case ks_Cut => k_is)
    (case kh_Down => k_is)
    (case ko_Down => k_is)
    (case ks_Down => k_is)
    (case kh_Near => k_is)
    (case ko_Near => k_is)
    (case ks_Near => k_is)
    (case kh_Up => k_is)
    (case ko_Up => k_is)
    (case ks_Up => k_is)
    (case km_Cut => k_is)
    (case ki_Cut => k_is)
    (case kt_Cut => k_is)
    (case kk_Cut => k_is)
    (case km_Down => k_is)
    (case ki_Down => k_is)
    (case kt_Down => k_is)
    (case kk_Down => k_is)
    (case km_Near => k_is)
    (case ki_Near => k_is)
    (case kt_Near => k_is)
    (case kk_Near => k_is)
    (case km_Up => k_is)
    (case ki_Up => k_is)
    (case kt_Up => k_is)
    (case kk_Up => k_is)
    (case a_all_ways => k_is)
    (case l_all_ways => k_is)
    (case c_all_ways => k_is)
    (case k_all_ways => k_is)
    (case a_way_of => k_is)
    (case l_way_of => k_is)
    (case c_way_of => k_is)
    (case k_way_of => k_is)
    (case a_l_begun => k_is)
    (case l_l_begun => k_is)
    (case c_l_begun => k_is)
    (case k_l_begun => k_is)
    (case a_l_draw => k_is)
    (case l_l_draw => k_is)
    (case c_l_draw => k_is)
    (case k_l_draw => k_is)
    (case a_l_number => k_is)
    (case l_l_number => k_is)
    (case c_l_number => k_is)
    (case k_l_number => k_is)
    (case a_l_rest => k_is)
    (case l_l_rest => k_is)
    (case c_l_rest => k_is)
    (case k_l_rest => k_is)
    (case a_l_cell => k_is)
    (case l_l_cell => k_is)
    (case c_l_cell => k_is)
    (case k_l_cell => k_is)
    (case l_Down_adjust => k_is)
    (case c_Down_adjust => k_is)
    (case k_Down_adjust => k_is)
    (case mf_Down_adjust => k_is)
    (case l_Up_adjust => k_is)
    (case c_Up_adjust => k_is)
    (case k_Up_adjust => k_is)
    (case mf_Up_adjust => k_is)
    (case l_Way_adjust => k_is)
    (case c_Way_adjust => k_is)
    (case k_Way_adjust => k_is)
    (case mf_Cut_adjust => k_is)
    (case l_Near_adjust => k_is)
    (case c_Near_adjust => k_is)
    (case k_Near_adjust => k_is)
    (case mf_Near_adjust => k_is)
    (case a_l_right => k_is)
    (case l_l_right => k_is)
    (case c_l_right => k_is)
    (case k_l_right => k_is)
    (case a_l_asked => k_is)
    (case l_l_asked => k_is)
    (case c_l_asked => k_is)
    (case k_l_asked => k_is)
    (case l_Way_rounded => k_is)
    (case c_Way_rounded => k_is)
    (case k_Way_rounded => k_is)
    (case mf_Cut_rounded => k_is)
    (case mf_Down_rounded => k_is)
    (case mf_Near_rounded => k_is)
    (case mf_Up_rounded => k_is)
    (case a_law => k_is)
    (case l_law => k_is)
    (case c_law => k_is)
    (case k_law => k_is)
    (case zz_isinstance => k_is)
    (case zz_str => k_is)
    (case zz_max => k_is)
    (case zz_min => k_is)
    (case zz_abs => k_is)
    (case zz_len => k_is)
    (case zz_bool => k_is)
    (case zz_int => k_is)
    (case zz_divmod => k_is)
    (case zz_range => k_is)
