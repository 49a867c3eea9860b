import PyProof.Rows.All
import Wide.All
import OpenK.AllK
import Wide.FinOn
import HandS.ForMost
import HandS.Wide
import HandS.WideBits
import HandS.IsInst
import HandS.Style
import PySem.Challenge.RW_overwise_k13_twos
set_option Elab.async false
set_option linter.all false
set_option maxRecDepth 100000
set_option maxHeartbeats 4000000
/-! ### own rules and steps -/
namespace Ow
open PySem L2
section
variable {Q : VK} {H H' : Hp} {A B : Prop}
theorem gi {e : Int} (h : ∀ x, x = e → Q (.int x) H) : Q (.int e) H := h e rfl
theorem gl {e n : Int} (h : e = n) (q : Q (.int n) H) : Q (.int e) H := h ▸ q
theorem gs {e n : Str} (h : e = n) (q : Q (.str n) H) : Q (.str e) H := h ▸ q
theorem p2 (k : Nat) : (0 : Int) < 2 ^ k := Int.pow_pos (by decide)
theorem gpow {k : Nat} (h : ∀ x, x = (2 : Int) ^ k → 0 < x → Q (.int x) H) : Q (.int (1 * 2 ^ k)) H := by
  rw [Int.one_mul]; exact h _ rfl (p2 k)
theorem gmod {i j : Int} (hj : 0 < j) (h : ∀ x, x = i % j → 0 ≤ x → x < j → Q (.int x) H) : Q (.int (i % j)) H :=
  h _ rfl (Int.emod_nonneg _ (by omega)) (Int.emod_lt_of_pos _ hj)
theorem gmax {i j : Int} (h : ∀ x, (i ≤ x ∧ j ≤ x ∧ (x = i ∨ x = j)) → Q (.int x) H) : Q (.int (if j > i then j else i)) H := by
  apply h; split <;> omega
theorem gmin {i j : Int} (h : ∀ x, (x ≤ i ∧ x ≤ j ∧ (x = i ∨ x = j)) → Q (.int x) H) : Q (.int (if j < i then j else i)) H := by
  apply h; split <;> omega
theorem max_ite {x i j : Int} (h : x = if j > i then j else i) : i ≤ x ∧ j ≤ x ∧ (x = i ∨ x = j) := by split at h <;> omega
theorem min_ite {x i j : Int} (h : x = if j < i then j else i) : x ≤ i ∧ x ≤ j ∧ (x = i ∨ x = j) := by split at h <;> omega
theorem abs_ite {x i : Int} (h : x = if i < 0 then -i else i) : (0 ≤ i ∧ x = i) ∨ (i < 0 ∧ x = -i) := by split at h <;> omega
theorem eqi {a b : Int} (h : a = b) (q : Q (.int b) H) : Q (.int a) H := h ▸ q
theorem eqb {a b : Bool} (h : a = b) (q : Q (.bl b) H) : Q (.bl a) H := h ▸ q
theorem eqd {P : Prop} [Decidable P] (h : P) (q : Q (.bl true) H) : Q (.bl (decide P)) H := by rw [decide_eq_true h]; exact q
theorem eqnd {P : Prop} [Decidable P] (h : ¬ P) (q : Q (.bl true) H) : Q (.bl (!decide P)) H := by rw [decide_eq_false h]; exact q
theorem eqeqi {i j : Int} (h : i = j) (q : Q (.bl true) H) : Q (.bl (decide (V.int i = V.int j))) H := by rw [decide_eq_true (by rw [h])]; exact q
theorem eqnei {i j : Int} (h : i ≠ j) (q : Q (.bl true) H) : Q (.bl (!decide (V.int i = V.int j))) H := by
  rw [decide_eq_false (fun z => h (V.int.inj z))]; exact q
theorem ginteq {i j : Int} (h : ∀ n : Int, ((n = 1 ∧ i = j) ∨ (n = 0 ∧ i ≠ j)) → Q (.int n) H) : Q (.int (if decide (V.int i = V.int j) = true then 1 else 0)) H := by
  by_cases e : i = j
  · rw [if_pos (decide_eq_true (by rw [e]))]; exact h _ (.inl ⟨rfl, e⟩)
  · rw [if_neg (fun z => e (V.int.inj (of_decide_eq_true z)))]; exact h _ (.inr ⟨rfl, e⟩)
theorem gintd {P : Prop} [Decidable P] (h : ∀ n : Int, ((n = 1 ∧ P) ∨ (n = 0 ∧ ¬ P)) → Q (.int n) H) : Q (.int (if decide P = true then 1 else 0)) H := by
  by_cases e : P
  · rw [if_pos (decide_eq_true e)]; exact h _ (.inl ⟨rfl, e⟩)
  · rw [if_neg (fun z => e (of_decide_eq_true z))]; exact h _ (.inr ⟨rfl, e⟩)
theorem ifb {b : Bool} (h1 : b = true → A) (h2 : b = false → B) : if b = true then A else B := by
  cases b
  · exact iteF (h2 rfl)
  · exact iteT (h1 rfl)
theorem ifd {P : Prop} [Decidable P] (h1 : P → A) (h2 : ¬ P → B) : if decide P = true then A else B := by
  by_cases e : P
  · rw [if_pos (decide_eq_true e)]; exact h1 e
  · rw [if_neg (fun z => e (of_decide_eq_true z))]; exact h2 e
theorem ifnd {P : Prop} [Decidable P] (h1 : ¬ P → A) (h2 : P → B) : if (!decide P) = true then A else B := by
  by_cases e : P
  · rw [decide_eq_true e]; exact iteF (h2 e)
  · rw [decide_eq_false e]; exact iteT (h1 e)
theorem ifeqi {i j : Int} (h1 : i = j → A) (h2 : i ≠ j → B) : if decide (V.int i = V.int j) = true then A else B :=
  ifd (fun e => h1 (V.int.inj e)) (fun e => h2 (fun z => e (by rw [z])))
theorem ifnei {i j : Int} (h1 : i ≠ j → A) (h2 : i = j → B) : if (!decide (V.int i = V.int j)) = true then A else B :=
  ifnd (fun e => h1 (fun z => e (by rw [z]))) (fun e => h2 (V.int.inj e))
theorem ifeqs {i j : Str} (h1 : i = j → A) (h2 : i ≠ j → B) : if decide (V.str i = V.str j) = true then A else B :=
  ifd (fun e => h1 (V.str.inj e)) (fun e => h2 (fun z => e (by rw [z])))
theorem ifnes {i j : Str} (h1 : i ≠ j → A) (h2 : i = j → B) : if (!decide (V.str i = V.str j)) = true then A else B :=
  ifnd (fun e => h1 (fun z => e (by rw [z]))) (fun e => h2 (V.str.inj e))
/-! heaps -/
theorem at_new {p q : Addr} {u o : HO} (hp : H p = none) (h : H q = some o) : upd H p u q = some o := by rw [upd_ne (ne_of_none h hp)]; exact h
theorem at_mut {b q : Addr} {u o : HO} (hn : q ≠ b) (h : H q = some o) : upd H b u q = some o := by rw [upd_ne hn]; exact h
theorem same_new {p : Addr} {u : HO} (hp : H p = none) : Same H (upd H p u) := fun _ _ h => at_new hp h
theorem same_mut {b : Addr} {u : HO} (s : Same H H') (hb : H b = none) : Same H (upd H' b u) := fun q o h => by rw [upd_ne (ne_of_none h hb)]; exact s q o h
theorem ne_sym {a b : Addr} (h : a ≠ b) : b ≠ a := fun z => h z.symm
theorem seq {K : PySem.W.Frag} {a : Addr} {xs : List V} (e : Same H H') (h : SqL K H a xs) : SqL K H' a xs := e.seq h
theorem seqT {K : PySem.W.Frag} {a : Addr} {xs : List V} (e : Same H H') (h : SqT K H a xs) : SqT K H' a xs := by
  rcases h with (h | ⟨o, h⟩) | h
  · exact .inl (.inl (e _ _ h))
  · exact .inl (.inr ⟨o, e _ _ h⟩)
  · exact .inr h
end
/-! operators -/
section
variable {X : Cx}
/-- named answers -/
theorem op_mulN : OpR X (binaryOp .Mult) (fun x y H Q => ∃ i j, x = .int i ∧ y = .int j ∧ (CMul i j ∨ CMulX i j) ∧ ∀ z, z = i * j → Q (.int z) H) := by
  intro pins s σ H x y v u Q I rx ry q
  obtain ⟨i, j, rfl, rfl, hc | hc, q⟩ := q
  · exact op_mul pins s σ H _ _ v u Q I rx ry ⟨i, j, rfl, rfl, hc, q _ rfl⟩
  · exact op_mulX pins s σ H _ _ v u Q I rx ry ⟨i, j, rfl, rfl, hc, q _ rfl⟩
theorem op_divN : OpR X (binaryOp .FloorDiv) (fun x y H Q => ∃ i j, x = .int i ∧ y = .int j ∧ CDivW i j ∧ ∀ z, z = i / j → Q (.int z) H) := by
  intro pins s σ H x y v u Q I rx ry q
  obtain ⟨i, j, rfl, rfl, hc, q⟩ := q
  exact op_fdivW pins s σ H _ _ v u Q I rx ry ⟨i, j, rfl, rfl, hc, q _ rfl⟩
theorem op_shlN : OpR X (binaryOp .LShift) (fun x y H Q => ∃ i j, x = .int i ∧ y = .int j ∧ (CPow i j ∨ CShl i j) ∧ ∀ z, z = i * 2 ^ j.toNat → Q (.int z) H) := by
  intro pins s σ H x y v u Q I rx ry q
  obtain ⟨i, j, rfl, rfl, hc | hc, q⟩ := q
  · exact op_shl pins s σ H _ _ v u Q I rx ry ⟨i, j, rfl, rfl, hc, q _ rfl⟩
  · exact op_shlW pins s σ H _ _ v u Q I rx ry ⟨i, j, rfl, rfl, hc, q _ rfl⟩
theorem op_shrN : OpR X (binaryOp .RShift) (fun x y H Q => ∃ i j, x = .int i ∧ y = .int j ∧ 0 ≤ j ∧ ∀ z, z = i / 2 ^ j.toNat → Q (.int z) H) := by
  intro pins s σ H x y v u Q I rx ry q
  obtain ⟨i, j, rfl, rfl, hc, q⟩ := q
  exact op_shr pins s σ H _ _ v u Q I rx ry ⟨i, j, rfl, rfl, hc, q _ rfl⟩
theorem op_modN : OpR X (binaryOp .Mod) (fun x y H Q => ∃ i j, x = .int i ∧ y = .int j ∧ 0 < j ∧ ∀ z, z = i % j → 0 ≤ z → z < j → Q (.int z) H) := by
  intro pins s σ H x y v u Q I rx ry q
  obtain ⟨i, j, rfl, rfl, hc, q⟩ := q
  exact op_mod pins s σ H _ _ v u Q I rx ry ⟨i, j, rfl, rfl, hc, q _ rfl (Int.emod_nonneg _ (by omega)) (Int.emod_lt_of_pos _ hc)⟩
theorem op_shl1 : OpR X (binaryOp .LShift) (fun x y H Q => ∃ j, x = .int 1 ∧ y = .int j ∧ (0 ≤ j ∧ j ≤ 1000000) ∧ ∀ z, z = 2 ^ j.toNat → 0 < z → Q (.int z) H) := by
  intro pins s σ H x y v u Q I rx ry q
  obtain ⟨j, rfl, rfl, ⟨h0, h1⟩, q⟩ := q
  refine op_shl pins s σ H _ _ v u Q I rx ry ⟨1, j, rfl, rfl, ⟨h0, h1, by decide⟩, ?_⟩
  show Q (.int (1 * 2 ^ j.toNat)) H
  rw [Int.one_mul]
  exact q _ rfl (p2 _)
theorem op_mask : OpR X (binaryOp .BitAnd) (fun x y H Q => ∃ (i j : Int) (k : Nat), x = .int i ∧ y = .int j ∧ j = 2 ^ k - 1 ∧ ∀ r, r = i % 2 ^ k → 0 ≤ r → r < 2 ^ k → Q (.int r) H) := by
  intro pins s σ H x y v u Q I rx ry h
  obtain ⟨i, j, k, rfl, rfl, rfl, q⟩ := h
  refine op_andM pins s σ H _ _ v u Q I rx ry ⟨i, k, rfl, rfl, q _ rfl (Int.emod_nonneg _ ?_) (Int.emod_lt_of_pos _ (p2 k))⟩
  have := p2 k; omega
theorem op_bor : OpR X (binaryOp .BitOr) (fun x y H Q => ∃ (i j : Int), x = .int i ∧ y = .int j ∧ 0 ≤ i ∧ 0 ≤ j ∧ ∀ r, r = Builtin.bitOr i j → 0 ≤ r → Q (.int r) H) := by
  intro pins s σ H x y v u Q I rx ry h
  obtain ⟨i, j, rfl, rfl, h0, h1, q⟩ := h
  refine op_or pins s σ H _ _ v u Q I rx ry ⟨i, j, rfl, rfl, q _ rfl ?_⟩
  rw [bitOr_nn h0 h1]
  exact Int.natCast_nonneg _
theorem call_intb : CallR X (.type "int") (fun xs H Q => ∃ k, xs = [.bl k] ∧ ∀ n : Int, ((n = 1 ∧ k = true) ∨ (n = 0 ∧ k = false)) → Q (.int n) H) := by
  intro pins s σ H xs us Q I r h
  obtain ⟨k, rfl, q⟩ := h
  refine call_int1 pins s σ H _ us Q I r (.inr ⟨k, rfl, ?_⟩)
  cases k
  · exact q _ (.inr ⟨rfl, rfl⟩)
  · exact q _ (.inl ⟨rfl, rfl⟩)
/-- an int's value by a name -/
def tNmi (t : TE) : TE := fun σ H Q => t σ H fun v H1 => ∃ i, v = .int i ∧ ∀ x, x = i → Q (.int x) H1
theorem pe_nmi {e : Expr} {t : TE} (h : PE X e t) : PE X e (tNmi t) := ⟨fun pins s σ H Q I q => thn (h.run pins s σ H _ I q) fun _ _ z => by
  obtain ⟨v, H1, I1, r1, i, rfl, q1⟩ := z
  exact ⟨.int i, H1, I1, r1, q1 i rfl⟩⟩
/-- a reckoned constant -/
def tLit (n : Int) (t : TE) : TE := fun σ H Q => t σ H fun v H1 => v = .int n ∧ Q (.int n) H1
theorem pe_lit (n : Int) {e : Expr} {t : TE} (h : PE X e t) : PE X e (tLit n t) := ⟨fun pins s σ H Q I q => thn (h.run pins s σ H _ I q) fun _ _ z => by
  obtain ⟨v, H1, I1, r1, rfl, q1⟩ := z
  exact ⟨.int n, H1, I1, r1, q1⟩⟩
end
theorem pow2_mono {a b : Nat} (h : a ≤ b) : (2 : Int) ^ a ≤ 2 ^ b := by
  have e : (2 : Int) ^ b = 2 ^ a * 2 ^ (b - a) := by rw [← Int.pow_add, show a + (b - a) = b by omega]
  rw [e]
  have h1 := p2 a
  have h2 := p2 (b - a)
  calc (2 : Int) ^ a = 2 ^ a * 1 := by omega
    _ ≤ 2 ^ a * 2 ^ (b - a) := Int.mul_le_mul_of_nonneg_left (by omega) (by omega)
theorem pow2_pred {w : Int} (h : 1 ≤ w) : (2 : Int) ^ w.toNat = 2 * 2 ^ (w - 1).toNat := by
  have e : w.toNat = (w - 1).toNat + 1 := by omega
  rw [e, Int.pow_succ, Int.mul_comm]
theorem pow2_lt {a b : Int} (h0 : 0 ≤ a) (h : a < b) : (2 : Int) ^ a.toNat < 2 ^ b.toNat := by
  have h1 := pow2_mono (a := a.toNat) (b := (b - 1).toNat) (by omega)
  have h2 := pow2_pred (w := b) (by omega)
  have h3 := p2 (b - 1).toNat
  omega
theorem pow2_le32 {w : Int} (h : w ≤ 32) : (2 : Int) ^ w.toNat ≤ 4294967296 := pow2_mono (b := 32) (by omega)
theorem pow2_le64 {w : Int} (h : w ≤ 64) : (2 : Int) ^ w.toNat ≤ 18446744073709551616 := pow2_mono (b := 64) (by omega)
theorem divw64 {i j : Int} (h0 : 0 < j) (h : j ≤ 18446744073709551616) : CDivW i j := wide_div h0 (b := 65) (by omega) (by decide) (by decide)
/-! sizes -/
def Sz (n : Nat) (i : Int) : Prop := i.natAbs < 2 ^ n
theorem Sz.lit {n : Nat} {i : Int} (h : i.natAbs < 2 ^ n) : Sz n i := h
theorem Sz.mono {a b : Nat} {i : Int} (h : Sz a i) (hab : a ≤ b) : Sz b i := Nat.lt_of_lt_of_le h (Nat.pow_le_pow_right (by decide) hab)
theorem Sz.mul {a b : Nat} {i j : Int} (h : Sz a i) (h' : Sz b j) : Sz (a + b) (i * j) := wide_lt h h'
theorem Sz.le {a : Nat} {i j : Int} (h : Sz a i) (hl : j.natAbs ≤ i.natAbs) : Sz a j := Nat.lt_of_le_of_lt hl h
theorem Sz.add {a : Nat} {i j : Int} (h : Sz a i) (h' : Sz a j) : Sz (a + 1) (i + j) := by
  unfold Sz at *
  rw [Nat.pow_succ]
  have := Int.natAbs_add_le i j
  omega
theorem Sz.neg {a : Nat} {i : Int} (h : Sz a i) : Sz a (-i) := by unfold Sz at *; rw [Int.natAbs_neg]; exact h
theorem Sz.sub {a : Nat} {i j : Int} (h : Sz a i) (h' : Sz a j) : Sz (a + 1) (i - j) := by
  rw [Int.sub_eq_add_neg]; exact h.add h'.neg
theorem Sz.pow {k : Int} {n : Nat} (h : k ≤ n) : Sz (n + 1) (2 ^ k.toNat) := by
  unfold Sz
  rw [Int.natAbs_pow]
  exact Nat.pow_lt_pow_right (by decide) (by omega)
theorem Sz.shl {a n : Nat} {i k : Int} (h : Sz a i) (hk : k ≤ n) : Sz (a + (n + 1)) (i * 2 ^ k.toNat) := h.mul (Sz.pow hk)
theorem Sz.div {a : Nat} {i j : Int} (h : Sz a i) (hj : 0 < j) : Sz a (i / j) := by
  refine h.le ?_
  have h1 := Int.ediv_mul_add_emod i j
  have h2 := Int.emod_nonneg i (show j ≠ 0 by omega)
  have h3 := Int.emod_lt_of_pos i hj
  by_cases hi : i < 0
  · have h4 : i ≤ i / j := by
      refine (Int.le_ediv_iff_mul_le hj).mpr ?_
      have : i * 1 ≥ i * j := Int.mul_le_mul_of_nonpos_left (by omega) (by omega)
      omega
    have h5 : i / j < 0 := Int.ediv_neg_of_neg_of_pos hi hj
    omega
  · have h4 : i / j ≤ i := Int.ediv_le_self _ (by omega)
    have h5 : 0 ≤ i / j := Int.ediv_nonneg (by omega) (by omega)
    omega
theorem Sz.rng {n : Nat} {i j : Int} (h0 : 0 ≤ i) (h1 : i < j) (h : j.natAbs ≤ 2 ^ n) : Sz n i := by
  unfold Sz; omega
theorem Sz.md {n : Nat} {i j : Int} (h0 : 0 ≤ i) (h1 : i < j) (h : Sz n j) : Sz n i := by
  unfold Sz at *; omega
theorem Sz.abs {n : Nat} {x i : Int} (h : Sz n i) (hx : x = if i < 0 then -i else i) : Sz n x := by
  refine h.le ?_; split at hx <;> omega
theorem mul0 {i j : Int} (h : -(2 ^ 64) < i ∧ i < 2 ^ 64) : CMul i j ∨ CMulX i j := .inl (.inl h)
theorem mul1 {i j : Int} (h : -(2 ^ 64) < j ∧ j < 2 ^ 64) : CMul i j ∨ CMulX i j := .inl (.inr h)
theorem shl0 {i j : Int} (h : 0 ≤ j) (h' : j ≤ 1000000) (h2 : i.natAbs < 2 ^ 64) : CPow i j ∨ CShl i j := .inl ⟨h, h', h2⟩
theorem mulx {a b : Nat} {i j : Int} (h : Sz a i) (h' : Sz b j) (hl : a + b ≤ 134217728) : CMulX i j := mulx_ok h h' hl
theorem divz {b : Nat} {i j : Int} (h : 0 < j) (hb : Sz b j) (h0 : 0 < b) (h9 : b ≤ 9000) : CDivW i j := wide_div h hb h0 h9
theorem shlz {a n : Nat} {i j : Int} (h : Sz a i) (h0 : 0 ≤ j) (hj : j ≤ n) (hn : a + n ≤ 134217728) : CShl i j := by
  obtain ⟨k, rfl⟩ : ∃ k : Nat, j = k := ⟨j.toNat, by omega⟩
  exact shl_ok h (by omega)
/-- all but the object at b is as it was -/
def Fm (b : Addr) (H H' : Hp) : Prop := ∀ q o, q ≠ b → H q = some o → H' q = some o
theorem Fm.refl {b : Addr} {H : Hp} : Fm b H H := fun _ _ _ h => h
theorem Fm.same {b : Addr} {H H1 H2 : Hp} (a : Fm b H H1) (s : Same H1 H2) : Fm b H H2 := fun q o n h => s q o (a q o n h)
theorem Fm.mut {b : Addr} {H H1 : Hp} {u : HO} (a : Fm b H H1) : Fm b H (upd H1 b u) := fun q o n h => by rw [upd_ne n]; exact a q o n h
theorem Fm.mutF {b c : Addr} {H H1 : Hp} {u : HO} (a : Fm b H H1) (hc : H c = none) : Fm b H (upd H1 c u) := fun q o n h => by rw [upd_ne (ne_of_none h hc)]; exact a q o n h
theorem Fm.trans {b : Addr} {H H1 H2 : Hp} (a : Fm b H H1) (s : Fm b H1 H2) : Fm b H H2 := fun q o n h => s q o n (a q o n h)
theorem Fm.frameF {b c : Addr} {H H1 H2 : Hp} (a : Fm b H H1) (s : Fm c H1 H2) (hc : H c = none) : Fm b H H2 := fun q o n h => s q o (ne_of_none h hc) (a q o n h)
theorem Fm.free {b : Addr} {H H' : Hp} (a : Fm b H H') {o : HO} {l : Addr} (hb : H' b = some o) (h : H' l = none) : H l = none := by
  cases e : H l with
  | none => rfl
  | some u =>
    have n : l ≠ b := fun z => by rw [z, hb] at h; cases h
    rw [a l u n e] at h; cases h
theorem same_frame {c : Addr} {H H1 H2 : Hp} (s : Same H H1) (f : Fm c H1 H2) (hc : H c = none) : Same H H2 := fun q o h => f q o (ne_of_none h hc) (s q o h)
/-! items -/
section
variable {K : PySem.W.Frag} {H : Hp} {Q : VK} {a : Addr}
theorem ixi {xs : List Int} {i : Int} (h : SqL K H a (xs.map V.int)) (h0 : 0 ≤ i) (h1 : i < xs.length) (q : ∀ y, xs[i.toNat]? = some y → Q (.int y) H) : rIxL K (.ref a) (.int i) H Q := by
  obtain ⟨n, rfl⟩ : ∃ n : Nat, i = n := ⟨i.toNat, by omega⟩
  have hl : n < xs.length := by omega
  refine ⟨a, _, _, .int (xs[n]'hl), rfl, rfl, h, atI_nat ?_, q _ (List.getElem?_eq_getElem hl)⟩
  rw [List.getElem?_map, List.getElem?_eq_getElem hl]
  all_goals rfl
theorem inV_int {y : Int} {xs : List Int} (h : y ∈ xs) : (if false = true then !(inV (.int y) (xs.map V.int)) else inV (.int y) (xs.map V.int)) = true := by
  rw [if_neg Bool.false_ne_true]
  unfold inV
  rw [List.any_map, List.any_eq_true]
  exact ⟨y, h, by simp [eqV]⟩
theorem ixn {xs : List Int} {i : Int} (h : SqL K H a (xs.map V.int)) (h0 : 0 ≤ i) (h1 : i < xs.length) (q : ∀ y, xs[i.toNat]? = some y → Q (.int y) H) : rIxL K (.ref a) (.int i) H Q := ixi h h0 h1 q
theorem ixi2 {x0 x1 : Int} {i : Int} (h : SqL K H a [.int x0, .int x1]) (hi : 0 ≤ i ∧ i < 2) (q : ∀ y, ((i = 0 ∧ y = x0) ∨ (i = 1 ∧ y = x1)) → Q (.int y) H) : rIxL K (.ref a) (.int i) H Q := by
  refine ixi (xs := [x0, x1]) h hi.1 hi.2 fun y hy => q y ?_
  have : i = 0 ∨ i = 1 := by omega
  rcases this with rfl | rfl <;> simp at hy <;> omega
theorem ixi3 {x0 x1 x2 : Int} {i : Int} (h : SqL K H a [.int x0, .int x1, .int x2]) (hi : 0 ≤ i ∧ i < 3) (q : ∀ y, ((i = 0 ∧ y = x0) ∨ (i = 1 ∧ y = x1) ∨ (i = 2 ∧ y = x2)) → Q (.int y) H) : rIxL K (.ref a) (.int i) H Q := by
  refine ixi (xs := [x0, x1, x2]) h hi.1 hi.2 fun y hy => q y ?_
  have : i = 0 ∨ i = 1 ∨ i = 2 := by omega
  rcases this with rfl | rfl | rfl <;> simp at hy <;> omega
theorem gturn {n i : Nat} {σ : L2.St} {R : L2.St → Hp → Prop} (h : ∀ x : Int, x = (i : Int) → gName n (.int x) σ H R) : gName n (.int (0 + (i : Int))) σ H R := h _ (by omega)
/-! a for over a written list, turn by turn -/
def unr (K : PySem.W.Frag) (a : Addr) (xs : List V) (g : TG) (tb : TS) (D : Ends) : List V → L2.St → Hp → Prop
  | [], σ, H => SqL K H a xs ∧ D.nx σ H
  | x :: r, σ, H => SqL K H a xs ∧ g x σ H fun σ2 H2 => tb { D with nx := unr K a xs g tb D r, ct := unr K a xs g tb D r, bk := D.nx } σ2 H2
theorem un_start {xs : List V} {g : TG} {tb : TS} {D : Ends} {σ : L2.St} (h : unr K a xs g tb D xs σ H) :
    ∃ W : Nat → Nat → L2.St → Hp → Prop, (∃ m, W 0 m σ H) ∧ ∀ i m σ H, W i m σ H →
      ((Itl K a).stop i H ∧ D.nx σ H) ∨ ((Itl K a).go i H ∧ ∃ N : L2.St → Hp → Prop, (∀ σ' H', N σ' H' → ∃ m', m' < m ∧ W (i + 1) m' σ' H') ∧ ∀ x H', (Itl K a).yld i H x H' → g x σ H' fun σ2 H2 => tb { D with nx := N, ct := N, bk := D.nx } σ2 H2) := by
  refine ⟨fun i m σ H => m = xs.length - i ∧ i ≤ xs.length ∧ unr K a xs g tb D (xs.drop i) σ H, ⟨xs.length, by simp, Nat.zero_le _, h⟩, ?_⟩
  rintro i m σ H ⟨rfl, hi, p⟩
  by_cases hlt : i < xs.length
  · rw [List.drop_eq_getElem_cons hlt] at p
    obtain ⟨q, p⟩ := p
    refine .inr ⟨⟨xs, xs[i], q, by simp [hlt]⟩, unr K a xs g tb D (xs.drop (i + 1)), fun σ' H' p' => ⟨xs.length - (i + 1), by omega, rfl, hlt, p'⟩, fun x H' y => ?_⟩
    obtain ⟨e, y⟩ := y
    subst e
    have e2 := y xs q
    rw [List.getElem?_eq_getElem hlt] at e2
    cases e2
    exact p
  · have e : i = xs.length := by omega
    subst e
    rw [List.drop_length] at p
    obtain ⟨q, p⟩ := p
    exact .inl ⟨⟨xs, q, Nat.le_refl _⟩, p⟩
end
/-- a def that stands behind the top -/
structure Dk (K : PySem.W.Frag) (mg : Str → Option Value) (x qual : Str) (st : Stmt) (ps : List Str) : Type where
  f : Addr
  fd : FuncData
  F : Fun K x qual st f fd
  b : Binds K fd ps []
  m : mg x = some (.ref f)
end Ow

namespace Ow
open PySem L2
local macro_rules | `(tactic| walk_at "ob") => `(tactic| first | assumption | omega | exact ⟨by omega, by omega⟩ | exact ⟨by omega, by omega, by omega⟩ | exact Ow.divw64 (by omega) (by omega) | exact Or.inl ⟨by omega, by omega⟩ | exact Or.inr ⟨by omega, by omega⟩)

theorem gcd_abs {a b x y : Int} (hx : x = if a < 0 then -a else a) (hy : y = if b < 0 then -b else b) : Int.gcd x y = Int.gcd a b := by
  have e1 : x.natAbs = a.natAbs := by split at hx <;> omega
  have e2 : y.natAbs = b.natAbs := by split at hy <;> omega
  unfold Int.gcd; rw [e1, e2]
theorem gcd_step {a b r g : Int} (h : (Int.gcd a b : Int) = g) (h0 : 0 ≤ a) (h1 : 0 ≤ b) (hr : r = a % b) : (Int.gcd b r : Int) = g := by
  obtain ⟨m, rfl⟩ := Int.eq_ofNat_of_zero_le h0
  obtain ⟨n, rfl⟩ := Int.eq_ofNat_of_zero_le h1
  subst hr
  rw [← h]
  congr 1
  show Nat.gcd n (m % n) = Nat.gcd m n
  rw [Nat.gcd_comm m n, Nat.gcd_rec n m, Nat.gcd_comm]
theorem gcd_end {a b g : Int} (h : (Int.gcd a b : Int) = g) (h0 : 0 ≤ a) (hb : ¬ 0 < b) (h1 : 0 ≤ b) : a = g := by
  have : b = 0 := by omega
  subst this
  rw [← h, Int.gcd_zero]
  omega
theorem gcd_size {a b g : Int} {n : Nat} (hb : 0 < b) (hz : Sz n b) (hg : g = (Int.gcd a b : Int)) : 0 < g ∧ Sz n g := by
  have h0 : 0 < Int.gcd a b := Int.gcd_pos_iff.mpr (.inr (by omega))
  have h1 : g ≤ b := hg ▸ Int.le_of_dvd hb (Int.gcd_dvd_right ..)
  exact ⟨by omega, hz.le (by omega)⟩
/-- both by their greatest common divisor -/
theorem lows {t b g : Int} (hg : g = (Int.gcd t b : Int)) (hb : 0 < b) : 0 < g ∧ t = t / g * g ∧ b = b / g * g ∧ Int.gcd (t / g) (b / g) = 1 ∧ 0 < b / g := by
  have h0 : 0 < Int.gcd t b := Int.gcd_pos_iff.mpr (.inr (by omega))
  have g0 : 0 < g := by omega
  have d1 : g ∣ t := hg ▸ Int.gcd_dvd_left ..
  have d2 : g ∣ b := hg ▸ Int.gcd_dvd_right ..
  have e2 := Int.ediv_mul_cancel d2
  refine ⟨g0, (Int.ediv_mul_cancel d1).symm, e2.symm, ?_, ?_⟩
  · rw [Int.gcd_ediv d1 d2, hg, Int.natAbs_natCast, Nat.div_self h0]
  · by_cases h : 0 < b / g
    · exact h
    · have : b / g * g ≤ 0 := Int.mul_nonpos_of_nonpos_of_nonneg (by omega) (by omega)
      omega

/-- what is rounded up, times 2 ^ k -/
def up (t b k : Int) : Int := -(-(t * 2 ^ k.toNat) / b)
theorem raise1 {t b k p q g : Int} (hb : 0 < b) (hg : 0 < g) (hu : up t b k = p * g) (h2 : 2 ^ k.toNat = q * g) (hq : 0 < q) :
    (2 : Int) ^ k.toNat % q = 0 ∧ 0 ≤ p * b - t * q ∧ (p * b - t * q) * 2 ^ k.toNat < b * q := by
  have e1 := Int.ediv_mul_add_emod (-(t * 2 ^ k.toNat)) b
  have e2 := Int.emod_nonneg (-(t * 2 ^ k.toNat)) (show b ≠ 0 by omega)
  have e3 := Int.emod_lt_of_pos (-(t * 2 ^ k.toNat)) hb
  have e4 : -(t * 2 ^ k.toNat) / b = -(p * g) := by rw [← hu]; unfold up; omega
  generalize -(t * 2 ^ k.toNat) % b = r at e1 e2 e3
  rw [e4, h2] at e1
  have e5 : (p * b - t * q) * g = r := by
    have a1 : (p * b - t * q) * g = p * b * g - t * q * g := Int.sub_mul ..
    have a2 : -(p * g) * b = -(p * b * g) := by rw [Int.neg_mul, Int.mul_right_comm]
    have a3 : t * (q * g) = t * q * g := (Int.mul_assoc ..).symm
    rw [a2, a3] at e1
    omega
  refine ⟨by rw [h2, Int.mul_emod_right], ?_, ?_⟩
  · by_cases h : 0 ≤ p * b - t * q
    · exact h
    · have : (p * b - t * q) * g < 0 := Int.mul_neg_of_neg_of_pos (by omega) hg
      omega
  · have a4 : (p * b - t * q) * 2 ^ k.toNat = r * q := by rw [h2, ← e5, Int.mul_comm q g, Int.mul_assoc]
    rw [a4]
    exact Int.mul_lt_mul_of_pos_right e3 hq
theorem by2 {n K p q g : Int} (h : n = p * g) (h2 : K = q * g) : p * K = n * q := by rw [h, h2, Int.mul_comm q g, Int.mul_assoc]

def top (i : Nat) : Stmt := PySem.Challenge.pw_overwise_k13_twos.main.body.getD i (.Pass ⟨0, 0, 0, 0⟩)
abbrev s_l_begun : Stmt := top 7
theorem sc_l_begun : FnScope ["_law_cell_here", "_law_rest"] ["_law_cell_here"] (defScope s_l_begun) := ⟨rfl, rfl, rfl, by decide +kernel, rfl, by decide +kernel, by decide +kernel⟩
def sp_l_begun (K : PySem.W.Frag) : Sp := fun vs H Q E => ∃ (cell : Int), vs = [.int cell] ∧ (∀ (a : Int), ∀ (n : Int), ∀ aq, H aq = none → Q (.ref aq) (upd H aq (.lst [.int (a), .int (0), .int (n)])))
abbrev s_l_draw : Stmt := top 8
theorem sc_l_draw : FnScope ["_law_state", "_law_many", "_law_found", "_law_number_here"] ["_law_state", "_law_many"] (defScope s_l_draw) := ⟨rfl, rfl, rfl, by decide +kernel, rfl, by decide +kernel, by decide +kernel⟩
def sp_l_draw (K : PySem.W.Frag) : Sp := fun vs H Q E => ∃ (box : Addr) (many : Int) (a : Int) (n : Int) (c : Int), vs = [.ref box, .int many] ∧ H box = some (.lst [.int (a), .int (n), .int (c)]) ∧ (0 < many) ∧ (many ≤ 18446744073709551616) ∧ (∀ (r : Int), ∀ (a2 : Int), ∀ (n2 : Int), (0 ≤ r) → (r < many) → Q (.int (r)) (upd H box (.lst [.int (a2), .int (n2), .int (c)])))
abbrev s_l_number : Stmt := top 12
theorem sc_l_number : FnScope ["_law_state", "_law_far", "_law_way", "_law_number_here"] ["_law_state", "_law_far"] (defScope s_l_number) := ⟨rfl, rfl, rfl, by decide +kernel, rfl, by decide +kernel, by decide +kernel⟩
def sp_l_number (K : PySem.W.Frag) : Sp := fun vs H Q E => ∃ (box : Addr) (far : Int) (a : Int) (n : Int) (c : Int), vs = [.ref box, .int far] ∧ H box = some (.lst [.int (a), .int (n), .int (c)]) ∧ (1 ≤ far) ∧ (far ≤ 2291) ∧ (∀ (r : Int), ∀ (a2 : Int), ∀ (n2 : Int), (Ow.Sz 2340 r) → Q (.int (r)) (upd H box (.lst [.int (a2), .int (n2), .int (c)])))
abbrev s_divisor_of : Stmt := top 1
theorem sc_divisor_of : FnScope ["one", "other"] ["one", "other"] (defScope s_divisor_of) := ⟨rfl, rfl, rfl, by decide +kernel, rfl, by decide +kernel, by decide +kernel⟩
def sp_divisor_of (K : PySem.W.Frag) : Sp := fun vs H Q E => ∃ (one : Int) (other : Int), vs = [.int one, .int other] ∧ (0 < other) ∧ Ow.Sz 8000 other ∧ (∀ (g : Int), (g = (Int.gcd one other : Int)) → (0 < g) → (Ow.Sz 8000 g) → Q (.int (g)) H)
abbrev s_lowest : Stmt := top 2
theorem sc_lowest : FnScope ["top", "bottom", "common"] ["top", "bottom"] (defScope s_lowest) := ⟨rfl, rfl, rfl, by decide +kernel, rfl, by decide +kernel, by decide +kernel⟩
def sp_lowest (K : PySem.W.Frag) : Sp := fun vs H Q E => ∃ (top : Int) (bottom : Int), vs = [.int top, .int bottom] ∧ (0 < bottom) ∧ Ow.Sz 8000 bottom ∧ Ow.Sz 20000 top ∧ (∀ (p : Int), ∀ (q : Int), ∀ (g : Int), (0 < g) → (top = p * g) → (bottom = q * g) → (Int.gcd p q = 1) → (0 < q) → (Ow.Sz 20000 p) → (Ow.Sz 8000 q) → ∀ aq H', Same H H' → H aq = none → H' aq = some (.tup [.int (p), .int (q)]) → Q (.ref aq) H')
abbrev s_by_twos : Stmt := top 3
theorem sc_by_twos : FnScope ["number", "k"] ["number", "k"] (defScope s_by_twos) := ⟨rfl, rfl, rfl, by decide +kernel, rfl, by decide +kernel, by decide +kernel⟩
def sp_by_twos (K : PySem.W.Frag) : Sp := fun vs H Q E => ∃ (number : Int) (k : Int), vs = [.int number, .int k] ∧ (0 ≤ k) ∧ (k ≤ 2101) ∧ Ow.Sz 20000 number ∧ (∀ (p : Int), ∀ (q : Int), ∀ (g : Int), (0 < g) → (number = p * g) → (2 ^ k.toNat = q * g) → (Int.gcd p q = 1) → (0 < q) → (Ow.Sz 20000 p) → (Ow.Sz 8000 q) → ∀ aq H', Same H H' → H aq = none → H' aq = some (.tup [.int (p), .int (q)]) → Q (.ref aq) H')
abbrev s_l_divisor : Stmt := top 10
theorem sc_l_divisor : FnScope ["_law_one_here", "_law_other"] ["_law_one_here", "_law_other"] (defScope s_l_divisor) := ⟨rfl, rfl, rfl, by decide +kernel, rfl, by decide +kernel, by decide +kernel⟩
def sp_l_divisor (K : PySem.W.Frag) : Sp := fun vs H Q E => ∃ (one : Int) (other : Int), vs = [.int one, .int other] ∧ (0 < other) ∧ Ow.Sz 8000 other ∧ (∀ (g : Int), (g = (Int.gcd one other : Int)) → (0 < g) → (Ow.Sz 8000 g) → Q (.int (g)) H)
abbrev s_l_fraction : Stmt := top 13
theorem sc_l_fraction : FnScope ["_law_state", "_law_far", "_law_top", "_law_bottom", "_law_by"] ["_law_state", "_law_far"] (defScope s_l_fraction) := ⟨rfl, rfl, rfl, by decide +kernel, rfl, by decide +kernel, by decide +kernel⟩
def sp_l_fraction (K : PySem.W.Frag) : Sp := fun vs H Q E => ∃ (box : Addr) (far : Int) (a : Int) (n : Int) (c : Int), vs = [.ref box, .int far] ∧ H box = some (.lst [.int (a), .int (n), .int (c)]) ∧ (1 ≤ far) ∧ (far ≤ 2291) ∧ (∀ (t : Int), ∀ (b : Int), ∀ (a2 : Int), ∀ (n2 : Int), (Ow.Sz 2340 t) → (0 < b) → (Ow.Sz 2340 b) → ∀ aq H', Ow.Fm box H H' → H' box = some (.lst [.int (a2), .int (n2), .int (c)]) → H aq = none → H' aq = some (.tup [.int (t), .int (b)]) → Q (.ref aq) H')
abbrev s_l_power : Stmt := top 14
theorem sc_l_power : FnScope ["_law_k"] ["_law_k"] (defScope s_l_power) := ⟨rfl, rfl, rfl, by decide +kernel, rfl, by decide +kernel, by decide +kernel⟩
def sp_l_power (K : PySem.W.Frag) : Sp := fun vs H Q E => ∃ (k : Int), vs = [.int k] ∧ (0 ≤ k) ∧ (k ≤ 2102) ∧ (∀ (r : Int), (r = 2 ^ k.toNat) → (0 < r) → (Ow.Sz 2300 r) → Q (.int (r)) H)
abbrev s_raised : Stmt := top 4
theorem sc_raised : FnScope ["one", "k", "top", "bottom"] ["one", "k"] (defScope s_raised) := ⟨rfl, rfl, rfl, by decide +kernel, rfl, by decide +kernel, by decide +kernel⟩
def sp_raised (K : PySem.W.Frag) : Sp := fun vs H Q E => ∃ (one : Addr) (k : Int) (t : Int) (b : Int), vs = [.ref one, .int k] ∧ H one = some (.tup [.int (t), .int (b)]) ∧ Ow.Sz 8000 t ∧ Ow.Sz 8000 b ∧ (0 < b) ∧ (0 ≤ k) ∧ (k ≤ 2101) ∧ (∀ (p : Int), ∀ (q : Int), ∀ (g : Int), (0 < g) → (Ow.up t b k = p * g) → (2 ^ k.toNat = q * g) → (Int.gcd p q = 1) → (0 < q) → (Ow.Sz 20000 p) → (Ow.Sz 8000 q) → ∀ aq H', Same H H' → H aq = none → H' aq = some (.tup [.int (p), .int (q)]) → Q (.ref aq) H')
abbrev s_l_whole : Stmt := top 9
theorem sc_l_whole : FnScope ["_law_found"] ["_law_found"] (defScope s_l_whole) := ⟨rfl, rfl, rfl, by decide +kernel, rfl, by decide +kernel, by decide +kernel⟩
def sp_l_whole (K : PySem.W.Frag) : Sp := fun vs H Q E => ∃ (found : Int), vs = [.int found] ∧ (Q (.bl (true)) H)
abbrev s_l_is_fraction : Stmt := top 11
theorem sc_l_is_fraction : FnScope ["_law_found"] ["_law_found"] (defScope s_l_is_fraction) := ⟨rfl, rfl, rfl, by decide +kernel, rfl, by decide +kernel, by decide +kernel⟩
def sp_l_is_fraction (K : PySem.W.Frag) : Sp := fun vs H Q E => ∃ (found : Addr) (t : Int) (b : Int), vs = [.ref found] ∧ H found = some (.tup [.int (t), .int (b)]) ∧ (0 < b) ∧ Ow.Sz 8000 b ∧ (Int.gcd t b = 1) ∧ (Q (.bl (true)) H)
abbrev s_l_raised : Stmt := top 15
theorem sc_l_raised : FnScope ["_law_one_here", "_law_k", "_law_found", "_law_above"] ["_law_one_here", "_law_k"] (defScope s_l_raised) := ⟨rfl, rfl, rfl, by decide +kernel, rfl, by decide +kernel, by decide +kernel⟩
def sp_l_raised (K : PySem.W.Frag) : Sp := fun vs H Q E => ∃ (one : Addr) (k : Int) (t : Int) (b : Int), vs = [.ref one, .int k] ∧ H one = some (.tup [.int (t), .int (b)]) ∧ (0 < b) ∧ Ow.Sz 4000 t ∧ Ow.Sz 4000 b ∧ (0 ≤ k) ∧ (k ≤ 2101) ∧ (∀ H', Same H H' → Q (.bl (true)) H')
abbrev s_l_one : Stmt := top 16
theorem sc_l_one : FnScope ["_law_cell_here", "_law_far", "_law_state", "_law_k", "_law_number_here", "_law_found", "_law_one_here", "_law_power_here", "_law_by"] ["_law_cell_here", "_law_far"] (defScope s_l_one) := ⟨rfl, rfl, rfl, by decide +kernel, rfl, by decide +kernel, by decide +kernel⟩
def sp_l_one (K : PySem.W.Frag) : Sp := fun vs H Q E => ∃ (cell : Int) (far : Int), vs = [.int cell, .int far] ∧ (1 ≤ far) ∧ (far ≤ 2291) ∧ (∀ H', Same H H' → Q (.bl (true)) H')
abbrev s_l_cell : Stmt := top 6
theorem sc_l_cell : FnScope ["_law_script", "_law_k", "_law_number_here"] ["_law_script", "_law_k"] (defScope s_l_cell) := ⟨rfl, rfl, rfl, by decide +kernel, rfl, by decide +kernel, by decide +kernel⟩
def sp_l_cell (K : PySem.W.Frag) : Sp := fun vs H Q E => ∃ (script : Addr) (k : Int) (ns : List Int), vs = [.ref script, .int k] ∧ SqL K H script (ns.map V.int) ∧ (0 ≤ k) ∧ (k < 100) ∧ (∀ (x : Int), Q (.int (x)) H)
abbrev s_law : Stmt := top 17
theorem sc_law : FnScope ["_law_script", "_law_k"] ["_law_script"] (defScope s_law) := ⟨rfl, rfl, rfl, by decide +kernel, rfl, by decide +kernel, by decide +kernel⟩
def sp_law (K : PySem.W.Frag) : Sp := fun vs H Q E => ∃ (script : Addr) (ns : List Int), vs = [.ref script] ∧ SqL K H script (ns.map V.int) ∧ (ns.length ≤ 63) ∧ (∀ H', Same H H' → Q (.bl (true)) H')
structure Tx (K : PySem.W.Frag) (mg : Str → Option Value) : Type where
  d_l_begun : Ow.Dk K mg "_law_begun" "_law_begun" s_l_begun ["_law_cell_here"]
  d_l_draw : Ow.Dk K mg "_law_draw" "_law_draw" s_l_draw ["_law_state", "_law_many"]
  d_l_number : Ow.Dk K mg "_law_number" "_law_number" s_l_number ["_law_state", "_law_far"]
  d_divisor_of : Ow.Dk K mg "divisor_of" "divisor_of" s_divisor_of ["one", "other"]
  d_lowest : Ow.Dk K mg "lowest" "lowest" s_lowest ["top", "bottom"]
  d_by_twos : Ow.Dk K mg "by_twos" "by_twos" s_by_twos ["number", "k"]
  d_l_divisor : Ow.Dk K mg "_law_divisor" "_law_divisor" s_l_divisor ["_law_one_here", "_law_other"]
  d_l_fraction : Ow.Dk K mg "_law_fraction" "_law_fraction" s_l_fraction ["_law_state", "_law_far"]
  d_l_power : Ow.Dk K mg "_law_power" "_law_power" s_l_power ["_law_k"]
  d_raised : Ow.Dk K mg "raised" "raised" s_raised ["one", "k"]
  d_l_whole : Ow.Dk K mg "_law_whole" "_law_whole" s_l_whole ["_law_found"]
  d_l_is_fraction : Ow.Dk K mg "_law_is_fraction" "_law_is_fraction" s_l_is_fraction ["_law_found"]
  d_l_raised : Ow.Dk K mg "_law_raised" "_law_raised" s_l_raised ["_law_one_here", "_law_k"]
  d_l_one : Ow.Dk K mg "_law_one" "_law_one" s_l_one ["_law_cell_here", "_law_far"]
  d_l_cell : Ow.Dk K mg "_law_cell" "_law_cell" s_l_cell ["_law_script", "_law_k"]
  d_law : Ow.Dk K mg "law" "law" s_law ["_law_script"]
  z_abs : mg "abs" = none
  z_isinstance : mg "isinstance" = none
  z_bool : mg "bool" = none
  z_int : mg "int" = none
  z_len : mg "len" = none
  z_tuple : mg "tuple" = none
  z_range : mg "range" = none
  z_max : mg "max" = none
  z_min : mg "min" = none
section
variable {P : Program} {w : World} {K : PySem.W.Frag} {mg : Str → Option Value} {base : Heap}
theorem ok_l_begun (T : Tx K mg) : FnOk P w K mg base CX0 1 T.d_l_begun.f T.d_l_begun.fd ["_law_cell_here"] (sp_l_begun K) := by
  refine T.d_l_begun.F.ok sc_l_begun (fun vs H Q E h => ?_) (fun cdv A outer s H vs Q E hr h => ?_)
  · obtain ⟨cell, rfl, _⟩ := h
    rfl
  · obtain ⟨cell, rfl, kont⟩ := h
    refine ⟨_, (pss_cons (ps_set (i := 1) sc_l_begun.nd rfl (Or.inl rfl) pe_int)
        (pss_cons (ps_if (pt_cmpR op_ge (pv 0) (Ow.pe_lit (1000000000000000000) (pe_op op_pow pe_int pe_int)) (nomark _)) (pss_one (ps_set (i := 1) sc_l_begun.nd rfl (Or.inl rfl) (pv 0))) pss_nil)
        (pss_one (ps_ret (pe_lst (pa_cons (pv 1) (pa_cons pe_int (pa_cons (pe_op Ow.op_modN (pv 0) pe_int) pa_nil)))))))), ?_⟩
    refine ⟨_, rfl, ?_⟩
    refine ⟨_, _, rfl, rfl, ⟨by decide, by decide, by decide⟩, ?_⟩
    refine ⟨by decide, ?_⟩
    refine ⟨_, _, rfl, rfl, ?_⟩
    refine ⟨_, rfl, ?_⟩
    refine Ow.ifd (fun h1 => ?_) (fun h1 => ?_)
    · refine ⟨_, rfl, ?_⟩
      refine ⟨_, rfl, ?_⟩
      refine ⟨_, rfl, ?_⟩
      refine ⟨_, _, rfl, rfl, (by first | assumption | exact Ow.divw64 (by omega) (by omega) | exact Ow.mul0 ⟨by omega, by omega⟩ | exact Ow.mul1 ⟨by omega, by omega⟩ | exact Ow.shl0 (by omega) (by omega) (by omega) | exact ⟨by omega, by omega⟩ | exact ⟨by omega, by omega, by omega⟩ | omega | (subst_vars; omega)), fun r h_r h0_r h1_r => ?_⟩
      refine ⟨by show 3 ≤ sizeLine; decide, fun p h_p => ?_⟩
      exact kont cell r _ h_p
    · refine ⟨_, rfl, ?_⟩
      refine ⟨_, rfl, ?_⟩
      refine ⟨_, _, rfl, rfl, (by first | assumption | exact Ow.divw64 (by omega) (by omega) | exact Ow.mul0 ⟨by omega, by omega⟩ | exact Ow.mul1 ⟨by omega, by omega⟩ | exact Ow.shl0 (by omega) (by omega) (by omega) | exact ⟨by omega, by omega⟩ | exact ⟨by omega, by omega, by omega⟩ | omega | (subst_vars; omega)), fun r_2 h_r_2 h0_r_2 h1_r_2 => ?_⟩
      refine ⟨by show 3 ≤ sizeLine; decide, fun p_2 h_p_2 => ?_⟩
      exact kont 0 r_2 _ h_p_2
theorem ok_l_draw (T : Tx K mg) : FnOk P w K mg base CX0 1 T.d_l_draw.f T.d_l_draw.fd ["_law_state", "_law_many"] (sp_l_draw K) := by
  refine T.d_l_draw.F.ok sc_l_draw (fun vs H Q E h => ?_) (fun cdv A outer s H vs Q E hr h => ?_)
  · obtain ⟨box, many, a, n, c, rfl, _⟩ := h
    rfl
  · obtain ⟨box, many, a, n, c, rfl, c0, c1, c2, kont⟩ := h
    refine ⟨_, (pss_cons (ps_if (pt_cmpR op_gt (pe_ix ix_list (pv 0) pe_int (fun _ _ => rfl)) pe_int (nomark _)) (pss_cons (ps_set (i := 2) sc_l_draw.nd rfl (Or.inl rfl) (pe_op Ow.op_modN (pe_ix ix_list (pv 0) pe_int (fun _ _ => rfl)) (pv 1)))
        (pss_cons (ps_asg (pe_op Ow.op_divN (pe_ix ix_list (pv 0) pe_int (fun _ _ => rfl)) (pv 1)) (pg_sub (pv 0) pe_int set_list))
        (pss_one (ps_ret (pv 2))))) pss_nil)
        (pss_cons (ps_asg (Ow.pe_nmi (pe_op op_add (pe_ix ix_list (pv 0) pe_int (fun _ _ => rfl)) pe_int)) (pg_sub (pv 0) pe_int set_list))
        (pss_cons (ps_set (i := 3) sc_l_draw.nd rfl (Or.inl rfl) (pe_op Ow.op_modN (pe_op op_add (pe_op Ow.op_mulN (pe_ix ix_list (pv 0) pe_int (fun _ _ => rfl)) pe_int) (pe_op Ow.op_mulN (pe_ix ix_list (pv 0) pe_int (fun _ _ => rfl)) pe_int)) pe_int))
        (pss_cons (ps_set (i := 3) sc_l_draw.nd rfl (Or.inl rfl) (pe_op Ow.op_modN (pe_op op_add (pe_op Ow.op_mulN (pv 3) (pv 3)) (pe_op Ow.op_mulN (pe_ix ix_list (pv 0) pe_int (fun _ _ => rfl)) pe_int)) pe_int))
        (pss_one (ps_ret (pe_op Ow.op_modN (pe_op Ow.op_modN (pe_op Ow.op_mulN (pv 3) (pv 3)) pe_int) (pv 1)))))))), ?_⟩
    refine ⟨_, rfl, ?_⟩
    refine ⟨_, _, _, _, rfl, rfl, (SqL.of c0), (by first | rfl | decide), ?_⟩
    refine ⟨_, _, rfl, rfl, ?_⟩
    refine ⟨_, rfl, ?_⟩
    refine Ow.ifd (fun h1 => ?_) (fun h1 => ?_)
    · refine ⟨_, rfl, ?_⟩
      refine ⟨_, _, _, _, rfl, rfl, (SqL.of c0), (by first | rfl | decide), ?_⟩
      refine ⟨_, rfl, ?_⟩
      refine ⟨_, _, rfl, rfl, (by first | assumption | exact Ow.divw64 (by omega) (by omega) | exact Ow.mul0 ⟨by omega, by omega⟩ | exact Ow.mul1 ⟨by omega, by omega⟩ | exact Ow.shl0 (by omega) (by omega) (by omega) | exact ⟨by omega, by omega⟩ | exact ⟨by omega, by omega, by omega⟩ | omega | (subst_vars; omega)), fun r h_r h0_r h1_r => ?_⟩
      refine ⟨_, rfl, ?_⟩
      refine ⟨_, _, _, _, rfl, rfl, (SqL.of c0), (by first | rfl | decide), ?_⟩
      refine ⟨_, rfl, ?_⟩
      refine ⟨_, _, rfl, rfl, (by first | assumption | exact Ow.divw64 (by omega) (by omega) | exact Ow.mul0 ⟨by omega, by omega⟩ | exact Ow.mul1 ⟨by omega, by omega⟩ | exact Ow.shl0 (by omega) (by omega) (by omega) | exact ⟨by omega, by omega⟩ | exact ⟨by omega, by omega, by omega⟩ | omega | (subst_vars; omega)), fun q h_q => ?_⟩
      refine ⟨_, rfl, ?_⟩
      refine ⟨_, _, _, 0, rfl, rfl, c0, rfl, ?_⟩
      refine ⟨_, rfl, ?_⟩
      exact kont r q n (by first | assumption | exact Ow.divw64 (by omega) (by omega) | exact Ow.mul0 ⟨by omega, by omega⟩ | exact Ow.mul1 ⟨by omega, by omega⟩ | exact Ow.shl0 (by omega) (by omega) (by omega) | exact ⟨by omega, by omega⟩ | exact ⟨by omega, by omega, by omega⟩ | omega | (subst_vars; omega)) (by first | assumption | exact Ow.divw64 (by omega) (by omega) | exact Ow.mul0 ⟨by omega, by omega⟩ | exact Ow.mul1 ⟨by omega, by omega⟩ | exact Ow.shl0 (by omega) (by omega) (by omega) | exact ⟨by omega, by omega⟩ | exact ⟨by omega, by omega, by omega⟩ | omega | (subst_vars; omega))
    · refine ⟨_, rfl, ?_⟩
      refine ⟨_, _, _, _, rfl, rfl, (SqL.of c0), (by first | rfl | decide), ?_⟩
      refine ⟨_, _, rfl, rfl, ?_⟩
      refine ⟨_, rfl, fun t h_t => ?_⟩
      refine ⟨_, rfl, ?_⟩
      refine ⟨_, _, _, 1, rfl, rfl, c0, rfl, ?_⟩
      refine ⟨_, rfl, ?_⟩
      refine ⟨_, _, _, _, rfl, rfl, (SqL.of upd_same), (by first | rfl | decide), ?_⟩
      refine ⟨_, _, rfl, rfl, (by first | assumption | exact Ow.divw64 (by omega) (by omega) | exact Ow.mul0 ⟨by omega, by omega⟩ | exact Ow.mul1 ⟨by omega, by omega⟩ | exact Ow.shl0 (by omega) (by omega) (by omega) | exact ⟨by omega, by omega⟩ | exact ⟨by omega, by omega, by omega⟩ | omega | (subst_vars; omega)), fun m h_m => ?_⟩
      refine ⟨_, rfl, ?_⟩
      refine ⟨_, _, _, _, rfl, rfl, (SqL.of upd_same), (by first | rfl | decide), ?_⟩
      refine ⟨_, _, rfl, rfl, (by first | assumption | exact Ow.divw64 (by omega) (by omega) | exact Ow.mul0 ⟨by omega, by omega⟩ | exact Ow.mul1 ⟨by omega, by omega⟩ | exact Ow.shl0 (by omega) (by omega) (by omega) | exact ⟨by omega, by omega⟩ | exact ⟨by omega, by omega, by omega⟩ | omega | (subst_vars; omega)), fun m_2 h_m_2 => ?_⟩
      refine ⟨_, _, rfl, rfl, ?_⟩
      refine ⟨_, _, rfl, rfl, (by first | assumption | exact Ow.divw64 (by omega) (by omega) | exact Ow.mul0 ⟨by omega, by omega⟩ | exact Ow.mul1 ⟨by omega, by omega⟩ | exact Ow.shl0 (by omega) (by omega) (by omega) | exact ⟨by omega, by omega⟩ | exact ⟨by omega, by omega, by omega⟩ | omega | (subst_vars; omega)), fun r_2 h_r_2 h0_r_2 h1_r_2 => ?_⟩
      refine ⟨_, rfl, ?_⟩
      refine ⟨_, rfl, ?_⟩
      refine ⟨_, _, rfl, rfl, (.inr (Ow.mulx (Ow.Sz.md h0_r_2 h1_r_2 (Ow.Sz.lit (n := 31) (i := 2147483647) (by decide))) (Ow.Sz.md h0_r_2 h1_r_2 (Ow.Sz.lit (n := 31) (i := 2147483647) (by decide))) (by decide))), fun m_3 h_m_3 => ?_⟩
      have z_m_3 : Ow.Sz 62 m_3 := by rw [h_m_3]; exact (Ow.Sz.mul (Ow.Sz.md h0_r_2 h1_r_2 (Ow.Sz.lit (n := 31) (i := 2147483647) (by decide))) (Ow.Sz.md h0_r_2 h1_r_2 (Ow.Sz.lit (n := 31) (i := 2147483647) (by decide))))
      refine ⟨_, rfl, ?_⟩
      refine ⟨_, _, _, _, rfl, rfl, (SqL.of upd_same), (by first | rfl | decide), ?_⟩
      refine ⟨_, _, rfl, rfl, (by first | assumption | exact Ow.divw64 (by omega) (by omega) | exact Ow.mul0 ⟨by omega, by omega⟩ | exact Ow.mul1 ⟨by omega, by omega⟩ | exact Ow.shl0 (by omega) (by omega) (by omega) | exact ⟨by omega, by omega⟩ | exact ⟨by omega, by omega, by omega⟩ | omega | (subst_vars; omega)), fun m_4 h_m_4 => ?_⟩
      refine ⟨_, _, rfl, rfl, ?_⟩
      refine ⟨_, _, rfl, rfl, (by first | assumption | exact Ow.divw64 (by omega) (by omega) | exact Ow.mul0 ⟨by omega, by omega⟩ | exact Ow.mul1 ⟨by omega, by omega⟩ | exact Ow.shl0 (by omega) (by omega) (by omega) | exact ⟨by omega, by omega⟩ | exact ⟨by omega, by omega, by omega⟩ | omega | (subst_vars; omega)), fun r_3 h_r_3 h0_r_3 h1_r_3 => ?_⟩
      refine ⟨_, rfl, ?_⟩
      refine ⟨_, rfl, ?_⟩
      refine ⟨_, _, rfl, rfl, (.inr (Ow.mulx (Ow.Sz.md h0_r_3 h1_r_3 (Ow.Sz.lit (n := 31) (i := 2147483629) (by decide))) (Ow.Sz.md h0_r_3 h1_r_3 (Ow.Sz.lit (n := 31) (i := 2147483629) (by decide))) (by decide))), fun m_5 h_m_5 => ?_⟩
      have z_m_5 : Ow.Sz 62 m_5 := by rw [h_m_5]; exact (Ow.Sz.mul (Ow.Sz.md h0_r_3 h1_r_3 (Ow.Sz.lit (n := 31) (i := 2147483629) (by decide))) (Ow.Sz.md h0_r_3 h1_r_3 (Ow.Sz.lit (n := 31) (i := 2147483629) (by decide))))
      refine ⟨_, _, rfl, rfl, (by first | assumption | exact Ow.divw64 (by omega) (by omega) | exact Ow.mul0 ⟨by omega, by omega⟩ | exact Ow.mul1 ⟨by omega, by omega⟩ | exact Ow.shl0 (by omega) (by omega) (by omega) | exact ⟨by omega, by omega⟩ | exact ⟨by omega, by omega, by omega⟩ | omega | (subst_vars; omega)), fun r_4 h_r_4 h0_r_4 h1_r_4 => ?_⟩
      refine ⟨_, rfl, ?_⟩
      refine ⟨_, _, rfl, rfl, (by first | assumption | exact Ow.divw64 (by omega) (by omega) | exact Ow.mul0 ⟨by omega, by omega⟩ | exact Ow.mul1 ⟨by omega, by omega⟩ | exact Ow.shl0 (by omega) (by omega) (by omega) | exact ⟨by omega, by omega⟩ | exact ⟨by omega, by omega, by omega⟩ | omega | (subst_vars; omega)), fun r_5 h_r_5 h0_r_5 h1_r_5 => ?_⟩
      exact kont r_5 a t (by first | assumption | exact Ow.divw64 (by omega) (by omega) | exact Ow.mul0 ⟨by omega, by omega⟩ | exact Ow.mul1 ⟨by omega, by omega⟩ | exact Ow.shl0 (by omega) (by omega) (by omega) | exact ⟨by omega, by omega⟩ | exact ⟨by omega, by omega, by omega⟩ | omega | (subst_vars; omega)) (by first | assumption | exact Ow.divw64 (by omega) (by omega) | exact Ow.mul0 ⟨by omega, by omega⟩ | exact Ow.mul1 ⟨by omega, by omega⟩ | exact Ow.shl0 (by omega) (by omega) (by omega) | exact ⟨by omega, by omega⟩ | exact ⟨by omega, by omega, by omega⟩ | omega | (subst_vars; omega))
theorem ok_l_number (T : Tx K mg) : FnOk P w K mg base CX0 2 T.d_l_number.f T.d_l_number.fd ["_law_state", "_law_far"] (sp_l_number K) := by
  refine T.d_l_number.F.ok sc_l_number (fun vs H Q E h => ?_) (fun cdv A outer s H vs Q E hr h => ?_)
  · obtain ⟨box, far, a, n, c, rfl, _⟩ := h
    rfl
  · obtain ⟨box, far, a, n, c, rfl, c0, c1, c2, kont⟩ := h
    refine ⟨_, (pss_cons (ps_set (i := 2) sc_l_number.nd rfl (Or.inl rfl) (pe_call (Ow.ok_l_draw T) (hr.mono (by decide : 1 ≤ 1)) (by rfl) T.d_l_draw.m T.d_l_draw.F.kp T.d_l_draw.b .nil pass0 (pa_cons (pv 0) (pa_cons pe_int pa_nil))))
        (pss_cons (ps_if (pt_cmpR op_eq (pv 2) pe_int (nomark _)) (pss_one (ps_set (i := 3) sc_l_number.nd rfl (Or.inl rfl) (pe_call (Ow.ok_l_draw T) (hr.mono (by decide : 1 ≤ 1)) (by rfl) T.d_l_draw.m T.d_l_draw.F.kp T.d_l_draw.b .nil pass0 (pa_cons (pv 0) (pa_cons pe_int pa_nil))))) (pss_one (ps_if (pt_cmpR op_eq (pv 2) pe_int (nomark _)) (pss_one (ps_set (i := 3) sc_l_number.nd rfl (Or.inl rfl) (Ow.pe_nmi (pe_op op_add (pe_op Ow.op_mulN (pe_call (Ow.ok_l_draw T) (hr.mono (by decide : 1 ≤ 1)) (by rfl) T.d_l_draw.m T.d_l_draw.F.kp T.d_l_draw.b .nil pass0 (pa_cons (pv 0) (pa_cons pe_int pa_nil))) (Ow.pe_lit (1000000000) (pe_op op_pow pe_int pe_int))) (pe_call (Ow.ok_l_draw T) (hr.mono (by decide : 1 ≤ 1)) (by rfl) T.d_l_draw.m T.d_l_draw.F.kp T.d_l_draw.b .nil pass0 (pa_cons (pv 0) (pa_cons pe_int pa_nil))))))) (pss_one (ps_if (pt_cmpR op_eq (pv 2) pe_int (nomark _)) (pss_one (ps_set (i := 3) sc_l_number.nd rfl (Or.inl rfl) (Ow.pe_nmi (pe_op op_add (pe_op Ow.op_shlN (pe_call (Ow.ok_l_draw T) (hr.mono (by decide : 1 ≤ 1)) (by rfl) T.d_l_draw.m T.d_l_draw.F.kp T.d_l_draw.b .nil pass0 (pa_cons (pv 0) (pa_cons pe_int pa_nil))) (pe_call (Ow.ok_l_draw T) (hr.mono (by decide : 1 ≤ 1)) (by rfl) T.d_l_draw.m T.d_l_draw.F.kp T.d_l_draw.b .nil pass0 (pa_cons (pv 0) (pa_cons (pv 1) pa_nil)))) (pe_call (Ow.ok_l_draw T) (hr.mono (by decide : 1 ≤ 1)) (by rfl) T.d_l_draw.m T.d_l_draw.F.kp T.d_l_draw.b .nil pass0 (pa_cons (pv 0) (pa_cons pe_int pa_nil))))))) (pss_one (ps_set (i := 3) sc_l_number.nd rfl (Or.inl rfl) (pe_call (Ow.ok_l_draw T) (hr.mono (by decide : 1 ≤ 1)) (by rfl) T.d_l_draw.m T.d_l_draw.F.kp T.d_l_draw.b .nil pass0 (pa_cons (pv 0) (pa_cons pe_int pa_nil))))))))))
        (pss_cons (ps_if (pt_cmpR op_eq (pe_call (Ow.ok_l_draw T) (hr.mono (by decide : 1 ≤ 1)) (by rfl) T.d_l_draw.m T.d_l_draw.F.kp T.d_l_draw.b .nil pass0 (pa_cons (pv 0) (pa_cons pe_int pa_nil))) pe_int (nomark _)) (pss_one (ps_set (i := 3) sc_l_number.nd rfl (Or.inl rfl) (Ow.pe_nmi (pe_op op_sub pe_int (pv 3))))) pss_nil)
        (pss_one (ps_ret (pv 3)))))), ?_⟩
    refine ⟨_, rfl, ?_⟩
    refine ⟨_, _, _, _, _, rfl, c0, (by first | assumption | exact Ow.divw64 (by omega) (by omega) | exact Ow.mul0 ⟨by omega, by omega⟩ | exact Ow.mul1 ⟨by omega, by omega⟩ | exact Ow.shl0 (by omega) (by omega) (by omega) | exact ⟨by omega, by omega⟩ | exact ⟨by omega, by omega, by omega⟩ | omega | (subst_vars; omega)), (by first | assumption | exact Ow.divw64 (by omega) (by omega) | exact Ow.mul0 ⟨by omega, by omega⟩ | exact Ow.mul1 ⟨by omega, by omega⟩ | exact Ow.shl0 (by omega) (by omega) (by omega) | exact ⟨by omega, by omega⟩ | exact ⟨by omega, by omega, by omega⟩ | omega | (subst_vars; omega)), fun l_way a2 n2 h1 h2 => ?_⟩
    refine ⟨_, rfl, ?_⟩
    refine ⟨rfl, ?_⟩
    refine ⟨_, rfl, ?_⟩
    refine Ow.ifeqi (fun h3 => ?_) (fun h3 => ?_)
    · refine ⟨_, rfl, ?_⟩
      refine ⟨_, _, _, _, _, rfl, upd_same, (by first | assumption | exact Ow.divw64 (by omega) (by omega) | exact Ow.mul0 ⟨by omega, by omega⟩ | exact Ow.mul1 ⟨by omega, by omega⟩ | exact Ow.shl0 (by omega) (by omega) (by omega) | exact ⟨by omega, by omega⟩ | exact ⟨by omega, by omega, by omega⟩ | omega | (subst_vars; omega)), (by first | assumption | exact Ow.divw64 (by omega) (by omega) | exact Ow.mul0 ⟨by omega, by omega⟩ | exact Ow.mul1 ⟨by omega, by omega⟩ | exact Ow.shl0 (by omega) (by omega) (by omega) | exact ⟨by omega, by omega⟩ | exact ⟨by omega, by omega, by omega⟩ | omega | (subst_vars; omega)), fun l_number_here a2_2 n2_2 h4 h5 => ?_⟩
      refine ⟨_, rfl, ?_⟩
      refine ⟨_, _, _, _, _, rfl, upd_same, (by first | assumption | exact Ow.divw64 (by omega) (by omega) | exact Ow.mul0 ⟨by omega, by omega⟩ | exact Ow.mul1 ⟨by omega, by omega⟩ | exact Ow.shl0 (by omega) (by omega) (by omega) | exact ⟨by omega, by omega⟩ | exact ⟨by omega, by omega, by omega⟩ | omega | (subst_vars; omega)), (by first | assumption | exact Ow.divw64 (by omega) (by omega) | exact Ow.mul0 ⟨by omega, by omega⟩ | exact Ow.mul1 ⟨by omega, by omega⟩ | exact Ow.shl0 (by omega) (by omega) (by omega) | exact ⟨by omega, by omega⟩ | exact ⟨by omega, by omega, by omega⟩ | omega | (subst_vars; omega)), fun t a2_3 n2_3 h6 h7 => ?_⟩
      refine ⟨rfl, ?_⟩
      refine ⟨_, rfl, ?_⟩
      refine Ow.ifeqi (fun h8 => ?_) (fun h8 => ?_)
      · refine ⟨_, rfl, ?_⟩
        refine ⟨_, _, rfl, rfl, ?_⟩
        refine ⟨_, rfl, fun l_number_here_2 h_l_number_here_2 => ?_⟩
        have z_l_number_here_2 : Ow.Sz 4 l_number_here_2 := by rw [h_l_number_here_2]; exact (Ow.Sz.sub (Ow.Sz.mono (Ow.Sz.lit (n := 1) (i := 0) (by decide)) (by decide : 1 ≤ 3)) (Ow.Sz.rng (n := 3) h4 h5 (by decide)))
        refine ⟨_, rfl, ?_⟩
        rw [upd_upd, upd_upd]
        exact kont l_number_here_2 a2_3 n2_3 (Ow.Sz.mono z_l_number_here_2 (by decide : 4 ≤ 2340))
      · refine ⟨_, rfl, ?_⟩
        rw [upd_upd, upd_upd]
        exact kont l_number_here a2_3 n2_3 (Ow.Sz.mono (Ow.Sz.rng (n := 3) h4 h5 (by decide)) (by decide : 3 ≤ 2340))
    · refine ⟨_, rfl, ?_⟩
      refine ⟨rfl, ?_⟩
      refine ⟨_, rfl, ?_⟩
      refine Ow.ifeqi (fun h9 => ?_) (fun h9 => ?_)
      · refine ⟨_, rfl, ?_⟩
        refine ⟨_, _, _, _, _, rfl, upd_same, (by first | assumption | exact Ow.divw64 (by omega) (by omega) | exact Ow.mul0 ⟨by omega, by omega⟩ | exact Ow.mul1 ⟨by omega, by omega⟩ | exact Ow.shl0 (by omega) (by omega) (by omega) | exact ⟨by omega, by omega⟩ | exact ⟨by omega, by omega, by omega⟩ | omega | (subst_vars; omega)), (by first | assumption | exact Ow.divw64 (by omega) (by omega) | exact Ow.mul0 ⟨by omega, by omega⟩ | exact Ow.mul1 ⟨by omega, by omega⟩ | exact Ow.shl0 (by omega) (by omega) (by omega) | exact ⟨by omega, by omega⟩ | exact ⟨by omega, by omega, by omega⟩ | omega | (subst_vars; omega)), fun t_2 a2_4 n2_4 h10 h11 => ?_⟩
        refine ⟨_, _, rfl, rfl, ⟨by decide, by decide, by decide⟩, ?_⟩
        refine ⟨by decide, ?_⟩
        refine ⟨_, _, rfl, rfl, (.inr (Ow.mulx (Ow.Sz.rng (n := 20) h10 h11 (by decide)) (Ow.Sz.lit (n := 30) (i := 1000000000) (by decide)) (by decide))), fun m h_m => ?_⟩
        have z_m : Ow.Sz 50 m := by rw [h_m]; exact (Ow.Sz.mul (Ow.Sz.rng (n := 20) h10 h11 (by decide)) (Ow.Sz.lit (n := 30) (i := 1000000000) (by decide)))
        refine ⟨_, rfl, ?_⟩
        refine ⟨_, _, _, _, _, rfl, upd_same, (by first | assumption | exact Ow.divw64 (by omega) (by omega) | exact Ow.mul0 ⟨by omega, by omega⟩ | exact Ow.mul1 ⟨by omega, by omega⟩ | exact Ow.shl0 (by omega) (by omega) (by omega) | exact ⟨by omega, by omega⟩ | exact ⟨by omega, by omega, by omega⟩ | omega | (subst_vars; omega)), (by first | assumption | exact Ow.divw64 (by omega) (by omega) | exact Ow.mul0 ⟨by omega, by omega⟩ | exact Ow.mul1 ⟨by omega, by omega⟩ | exact Ow.shl0 (by omega) (by omega) (by omega) | exact ⟨by omega, by omega⟩ | exact ⟨by omega, by omega, by omega⟩ | omega | (subst_vars; omega)), fun t_3 a2_5 n2_5 h12 h13 => ?_⟩
        refine ⟨_, _, rfl, rfl, ?_⟩
        refine ⟨_, rfl, fun l_number_here_3 h_l_number_here_3 => ?_⟩
        have z_l_number_here_3 : Ow.Sz 51 l_number_here_3 := by rw [h_l_number_here_3]; exact (Ow.Sz.add z_m (Ow.Sz.mono (Ow.Sz.rng (n := 30) h12 h13 (by decide)) (by decide : 30 ≤ 50)))
        refine ⟨_, rfl, ?_⟩
        refine ⟨_, _, _, _, _, rfl, upd_same, (by first | assumption | exact Ow.divw64 (by omega) (by omega) | exact Ow.mul0 ⟨by omega, by omega⟩ | exact Ow.mul1 ⟨by omega, by omega⟩ | exact Ow.shl0 (by omega) (by omega) (by omega) | exact ⟨by omega, by omega⟩ | exact ⟨by omega, by omega, by omega⟩ | omega | (subst_vars; omega)), (by first | assumption | exact Ow.divw64 (by omega) (by omega) | exact Ow.mul0 ⟨by omega, by omega⟩ | exact Ow.mul1 ⟨by omega, by omega⟩ | exact Ow.shl0 (by omega) (by omega) (by omega) | exact ⟨by omega, by omega⟩ | exact ⟨by omega, by omega, by omega⟩ | omega | (subst_vars; omega)), fun t_4 a2_6 n2_6 h14 h15 => ?_⟩
        refine ⟨rfl, ?_⟩
        refine ⟨_, rfl, ?_⟩
        refine Ow.ifeqi (fun h16 => ?_) (fun h16 => ?_)
        · refine ⟨_, rfl, ?_⟩
          refine ⟨_, _, rfl, rfl, ?_⟩
          refine ⟨_, rfl, fun l_number_here_4 h_l_number_here_4 => ?_⟩
          have z_l_number_here_4 : Ow.Sz 52 l_number_here_4 := by rw [h_l_number_here_4]; exact (Ow.Sz.sub (Ow.Sz.mono (Ow.Sz.lit (n := 1) (i := 0) (by decide)) (by decide : 1 ≤ 51)) z_l_number_here_3)
          refine ⟨_, rfl, ?_⟩
          rw [upd_upd, upd_upd, upd_upd]
          exact kont l_number_here_4 a2_6 n2_6 (Ow.Sz.mono z_l_number_here_4 (by decide : 52 ≤ 2340))
        · refine ⟨_, rfl, ?_⟩
          rw [upd_upd, upd_upd, upd_upd]
          exact kont l_number_here_3 a2_6 n2_6 (Ow.Sz.mono z_l_number_here_3 (by decide : 51 ≤ 2340))
      · refine ⟨_, rfl, ?_⟩
        refine ⟨rfl, ?_⟩
        refine ⟨_, rfl, ?_⟩
        refine Ow.ifeqi (fun h17 => ?_) (fun h17 => ?_)
        · refine ⟨_, rfl, ?_⟩
          refine ⟨_, _, _, _, _, rfl, upd_same, (by first | assumption | exact Ow.divw64 (by omega) (by omega) | exact Ow.mul0 ⟨by omega, by omega⟩ | exact Ow.mul1 ⟨by omega, by omega⟩ | exact Ow.shl0 (by omega) (by omega) (by omega) | exact ⟨by omega, by omega⟩ | exact ⟨by omega, by omega, by omega⟩ | omega | (subst_vars; omega)), (by first | assumption | exact Ow.divw64 (by omega) (by omega) | exact Ow.mul0 ⟨by omega, by omega⟩ | exact Ow.mul1 ⟨by omega, by omega⟩ | exact Ow.shl0 (by omega) (by omega) (by omega) | exact ⟨by omega, by omega⟩ | exact ⟨by omega, by omega, by omega⟩ | omega | (subst_vars; omega)), fun t_5 a2_7 n2_7 h18 h19 => ?_⟩
          refine ⟨_, rfl, ?_⟩
          refine ⟨_, rfl, ?_⟩
          refine ⟨_, _, _, _, _, rfl, upd_same, (by first | assumption | exact Ow.divw64 (by omega) (by omega) | exact Ow.mul0 ⟨by omega, by omega⟩ | exact Ow.mul1 ⟨by omega, by omega⟩ | exact Ow.shl0 (by omega) (by omega) (by omega) | exact ⟨by omega, by omega⟩ | exact ⟨by omega, by omega, by omega⟩ | omega | (subst_vars; omega)), (by first | assumption | exact Ow.divw64 (by omega) (by omega) | exact Ow.mul0 ⟨by omega, by omega⟩ | exact Ow.mul1 ⟨by omega, by omega⟩ | exact Ow.shl0 (by omega) (by omega) (by omega) | exact ⟨by omega, by omega⟩ | exact ⟨by omega, by omega, by omega⟩ | omega | (subst_vars; omega)), fun t_6 a2_8 n2_8 h20 h21 => ?_⟩
          refine ⟨_, _, rfl, rfl, (.inr (Ow.shlz (n := 2300) (Ow.Sz.rng (n := 20) h18 h19 (by decide)) (by first | assumption | exact Ow.divw64 (by omega) (by omega) | exact Ow.mul0 ⟨by omega, by omega⟩ | exact Ow.mul1 ⟨by omega, by omega⟩ | exact Ow.shl0 (by omega) (by omega) (by omega) | exact ⟨by omega, by omega⟩ | exact ⟨by omega, by omega, by omega⟩ | omega | (subst_vars; omega)) (by first | assumption | exact Ow.divw64 (by omega) (by omega) | exact Ow.mul0 ⟨by omega, by omega⟩ | exact Ow.mul1 ⟨by omega, by omega⟩ | exact Ow.shl0 (by omega) (by omega) (by omega) | exact ⟨by omega, by omega⟩ | exact ⟨by omega, by omega, by omega⟩ | omega | (subst_vars; omega)) (by decide))), fun s h_s => ?_⟩
          have z_s : Ow.Sz 2321 s := by rw [h_s]; exact (Ow.Sz.shl (n := 2300) (Ow.Sz.rng (n := 20) h18 h19 (by decide)) (by first | assumption | exact Ow.divw64 (by omega) (by omega) | exact Ow.mul0 ⟨by omega, by omega⟩ | exact Ow.mul1 ⟨by omega, by omega⟩ | exact Ow.shl0 (by omega) (by omega) (by omega) | exact ⟨by omega, by omega⟩ | exact ⟨by omega, by omega, by omega⟩ | omega | (subst_vars; omega)))
          refine ⟨_, rfl, ?_⟩
          refine ⟨_, _, _, _, _, rfl, upd_same, (by first | assumption | exact Ow.divw64 (by omega) (by omega) | exact Ow.mul0 ⟨by omega, by omega⟩ | exact Ow.mul1 ⟨by omega, by omega⟩ | exact Ow.shl0 (by omega) (by omega) (by omega) | exact ⟨by omega, by omega⟩ | exact ⟨by omega, by omega, by omega⟩ | omega | (subst_vars; omega)), (by first | assumption | exact Ow.divw64 (by omega) (by omega) | exact Ow.mul0 ⟨by omega, by omega⟩ | exact Ow.mul1 ⟨by omega, by omega⟩ | exact Ow.shl0 (by omega) (by omega) (by omega) | exact ⟨by omega, by omega⟩ | exact ⟨by omega, by omega, by omega⟩ | omega | (subst_vars; omega)), fun t_7 a2_9 n2_9 h22 h23 => ?_⟩
          refine ⟨_, _, rfl, rfl, ?_⟩
          refine ⟨_, rfl, fun l_number_here_5 h_l_number_here_5 => ?_⟩
          have z_l_number_here_5 : Ow.Sz 2322 l_number_here_5 := by rw [h_l_number_here_5]; exact (Ow.Sz.add z_s (Ow.Sz.mono (Ow.Sz.rng (n := 20) h22 h23 (by decide)) (by decide : 20 ≤ 2321)))
          refine ⟨_, rfl, ?_⟩
          refine ⟨_, _, _, _, _, rfl, upd_same, (by first | assumption | exact Ow.divw64 (by omega) (by omega) | exact Ow.mul0 ⟨by omega, by omega⟩ | exact Ow.mul1 ⟨by omega, by omega⟩ | exact Ow.shl0 (by omega) (by omega) (by omega) | exact ⟨by omega, by omega⟩ | exact ⟨by omega, by omega, by omega⟩ | omega | (subst_vars; omega)), (by first | assumption | exact Ow.divw64 (by omega) (by omega) | exact Ow.mul0 ⟨by omega, by omega⟩ | exact Ow.mul1 ⟨by omega, by omega⟩ | exact Ow.shl0 (by omega) (by omega) (by omega) | exact ⟨by omega, by omega⟩ | exact ⟨by omega, by omega, by omega⟩ | omega | (subst_vars; omega)), fun t_8 a2_10 n2_10 h24 h25 => ?_⟩
          refine ⟨rfl, ?_⟩
          refine ⟨_, rfl, ?_⟩
          refine Ow.ifeqi (fun h26 => ?_) (fun h26 => ?_)
          · refine ⟨_, rfl, ?_⟩
            refine ⟨_, _, rfl, rfl, ?_⟩
            refine ⟨_, rfl, fun l_number_here_6 h_l_number_here_6 => ?_⟩
            have z_l_number_here_6 : Ow.Sz 2323 l_number_here_6 := by rw [h_l_number_here_6]; exact (Ow.Sz.sub (Ow.Sz.mono (Ow.Sz.lit (n := 1) (i := 0) (by decide)) (by decide : 1 ≤ 2322)) z_l_number_here_5)
            refine ⟨_, rfl, ?_⟩
            rw [upd_upd, upd_upd, upd_upd, upd_upd]
            exact kont l_number_here_6 a2_10 n2_10 (Ow.Sz.mono z_l_number_here_6 (by decide : 2323 ≤ 2340))
          · refine ⟨_, rfl, ?_⟩
            rw [upd_upd, upd_upd, upd_upd, upd_upd]
            exact kont l_number_here_5 a2_10 n2_10 (Ow.Sz.mono z_l_number_here_5 (by decide : 2322 ≤ 2340))
        · refine ⟨_, rfl, ?_⟩
          refine ⟨_, _, _, _, _, rfl, upd_same, (by first | assumption | exact Ow.divw64 (by omega) (by omega) | exact Ow.mul0 ⟨by omega, by omega⟩ | exact Ow.mul1 ⟨by omega, by omega⟩ | exact Ow.shl0 (by omega) (by omega) (by omega) | exact ⟨by omega, by omega⟩ | exact ⟨by omega, by omega, by omega⟩ | omega | (subst_vars; omega)), (by first | assumption | exact Ow.divw64 (by omega) (by omega) | exact Ow.mul0 ⟨by omega, by omega⟩ | exact Ow.mul1 ⟨by omega, by omega⟩ | exact Ow.shl0 (by omega) (by omega) (by omega) | exact ⟨by omega, by omega⟩ | exact ⟨by omega, by omega, by omega⟩ | omega | (subst_vars; omega)), fun l_number_here_7 a2_11 n2_11 h27 h28 => ?_⟩
          refine ⟨_, rfl, ?_⟩
          refine ⟨_, _, _, _, _, rfl, upd_same, (by first | assumption | exact Ow.divw64 (by omega) (by omega) | exact Ow.mul0 ⟨by omega, by omega⟩ | exact Ow.mul1 ⟨by omega, by omega⟩ | exact Ow.shl0 (by omega) (by omega) (by omega) | exact ⟨by omega, by omega⟩ | exact ⟨by omega, by omega, by omega⟩ | omega | (subst_vars; omega)), (by first | assumption | exact Ow.divw64 (by omega) (by omega) | exact Ow.mul0 ⟨by omega, by omega⟩ | exact Ow.mul1 ⟨by omega, by omega⟩ | exact Ow.shl0 (by omega) (by omega) (by omega) | exact ⟨by omega, by omega⟩ | exact ⟨by omega, by omega, by omega⟩ | omega | (subst_vars; omega)), fun t_9 a2_12 n2_12 h29 h30 => ?_⟩
          refine ⟨rfl, ?_⟩
          refine ⟨_, rfl, ?_⟩
          refine Ow.ifeqi (fun h31 => ?_) (fun h31 => ?_)
          · refine ⟨_, rfl, ?_⟩
            refine ⟨_, _, rfl, rfl, ?_⟩
            refine ⟨_, rfl, fun l_number_here_8 h_l_number_here_8 => ?_⟩
            have z_l_number_here_8 : Ow.Sz 7 l_number_here_8 := by rw [h_l_number_here_8]; exact (Ow.Sz.sub (Ow.Sz.mono (Ow.Sz.lit (n := 1) (i := 0) (by decide)) (by decide : 1 ≤ 6)) (Ow.Sz.rng (n := 6) h27 h28 (by decide)))
            refine ⟨_, rfl, ?_⟩
            rw [upd_upd, upd_upd]
            exact kont l_number_here_8 a2_12 n2_12 (Ow.Sz.mono z_l_number_here_8 (by decide : 7 ≤ 2340))
          · refine ⟨_, rfl, ?_⟩
            rw [upd_upd, upd_upd]
            exact kont l_number_here_7 a2_12 n2_12 (Ow.Sz.mono (Ow.Sz.rng (n := 6) h27 h28 (by decide)) (by decide : 6 ≤ 2340))
theorem ok_divisor_of (T : Tx K mg) : FnOk P w K mg base CX0 1 T.d_divisor_of.f T.d_divisor_of.fd ["one", "other"] (sp_divisor_of K) := by
  refine T.d_divisor_of.F.ok sc_divisor_of (fun vs H Q E h => ?_) (fun cdv A outer s H vs Q E hr h => ?_)
  · obtain ⟨one, other, rfl, _⟩ := h
    rfl
  · obtain ⟨one, other, rfl, c0, c1, kont⟩ := h
    refine ⟨_, (pss_cons (ps_set (i := 0) sc_divisor_of.nd rfl (Or.inl rfl) (Ow.pe_nmi (pe_callB call_abs (by rfl) T.z_abs (by decide +kernel) (pa_cons (pv 0) pa_nil))))
        (pss_cons (ps_set (i := 1) sc_divisor_of.nd rfl (Or.inl rfl) (Ow.pe_nmi (pe_callB call_abs (by rfl) T.z_abs (by decide +kernel) (pa_cons (pv 1) pa_nil))))
        (pss_cons (ps_while PassesOwn.never (pt_cmpR op_gt (pv 1) pe_int (nomark _)) (pss_one (ps_par (i := 0) (j := 1) (by rfl) sc_divisor_of.nd rfl rfl (by decide) rfl rfl (pa_cons (pv 1) (pa_cons (pe_op Ow.op_modN (pv 0) (pv 1)) pa_nil)) (by rfl))))
        (pss_one (ps_ret (pv 0)))))), ?_⟩
    refine ⟨_, rfl, ?_⟩
    refine ⟨_, rfl, ?_⟩
    refine ⟨_, rfl, fun ab h_ab => ?_⟩
    have hm_ab := Ow.abs_ite h_ab
    refine ⟨_, rfl, ?_⟩
    refine ⟨_, rfl, ?_⟩
    refine ⟨_, rfl, fun ab_2 h_ab_2 => ?_⟩
    have hm_ab_2 := Ow.abs_ite h_ab_2
    obtain ⟨Wi, h1⟩ : ∃ W : Hp → Nat → L2.St → Hp → Prop, W = fun H0 m σ2 H2 => ∃ (a : Int) (b : Int), m = b.toNat ∧ σ2 = [some (.int (a)), some (.int (b))] ∧ H2 = H0 ∧ (0 ≤ a) ∧ (0 ≤ b) ∧ ((Int.gcd a b : Int) = Int.gcd one other) ∧ True := ⟨_, rfl⟩
    refine ⟨Wi _, ⟨_, by rw [h1]; exact ⟨_, _, rfl, rfl, rfl, (by first | omega | exact congrArg Nat.cast (Ow.gcd_abs h_ab h_ab_2)), (by first | omega | exact congrArg Nat.cast (Ow.gcd_abs h_ab h_ab_2)), (by first | omega | exact congrArg Nat.cast (Ow.gcd_abs h_ab h_ab_2)), trivial⟩⟩, ?_⟩
    intro m σ2 Hn h3
    rw [h1] at h3
    obtain ⟨a, b, rfl, rfl, rfl, h4, h5, h6, _⟩ := h3
    refine ⟨_, rfl, ?_⟩
    refine ⟨_, _, rfl, rfl, ?_⟩
    refine ⟨_, rfl, ?_⟩
    refine Ow.ifd (fun h7 => ?_) (fun h7 => ?_)
    · refine ⟨fun σ3 H3 => ∃ m2, m2 < b.toNat ∧ Wi _ m2 σ3 H3, fun _ _ z => z, ?_⟩
      refine ⟨_, rfl, ?_⟩
      refine ⟨_, rfl, ?_⟩
      refine ⟨_, rfl, ?_⟩
      refine ⟨_, _, rfl, rfl, (by first | assumption | exact Ow.divw64 (by omega) (by omega) | exact Ow.mul0 ⟨by omega, by omega⟩ | exact Ow.mul1 ⟨by omega, by omega⟩ | exact Ow.shl0 (by omega) (by omega) (by omega) | exact ⟨by omega, by omega⟩ | exact ⟨by omega, by omega, by omega⟩ | omega | (subst_vars; omega)), fun r h_r h0_r h1_r => ?_⟩
      refine ⟨_, _, rfl, ?_⟩
      refine ⟨_, ?_, by rw [h1]; exact ⟨_, _, rfl, rfl, rfl, (by first | omega | exact Ow.gcd_step (by assumption) (by assumption) (by assumption) (by assumption)), (by first | omega | exact Ow.gcd_step (by assumption) (by assumption) (by assumption) (by assumption)), (by first | omega | exact Ow.gcd_step (by assumption) (by assumption) (by assumption) (by assumption)), trivial⟩⟩
      first | assumption | exact Ow.divw64 (by omega) (by omega) | exact Ow.mul0 ⟨by omega, by omega⟩ | exact Ow.mul1 ⟨by omega, by omega⟩ | exact Ow.shl0 (by omega) (by omega) (by omega) | exact ⟨by omega, by omega⟩ | exact ⟨by omega, by omega, by omega⟩ | omega | (subst_vars; omega)
    · refine ⟨_, rfl, ?_⟩
      have d0 := Ow.gcd_end (by assumption) (by assumption) (by assumption) (by assumption)
      have d1 := Ow.gcd_size c0 c1 d0
      exact kont a (by first | assumption | omega) (by first | assumption | omega) d1.2
theorem ok_lowest (T : Tx K mg) : FnOk P w K mg base CX0 2 T.d_lowest.f T.d_lowest.fd ["top", "bottom"] (sp_lowest K) := by
  refine T.d_lowest.F.ok sc_lowest (fun vs H Q E h => ?_) (fun cdv A outer s H vs Q E hr h => ?_)
  · obtain ⟨top, bottom, rfl, _⟩ := h
    rfl
  · obtain ⟨top, bottom, rfl, c0, c1, c2, kont⟩ := h
    refine ⟨_, (pss_cons (ps_set (i := 2) sc_lowest.nd rfl (Or.inl rfl) (pe_call (Ow.ok_divisor_of T) (hr.mono (by decide : 1 ≤ 1)) (by rfl) T.d_divisor_of.m T.d_divisor_of.F.kp T.d_divisor_of.b .nil pass0 (pa_cons (pv 0) (pa_cons (pv 1) pa_nil))))
        (pss_cons (ps_if (pt_cmpR op_lt (pv 1) pe_int (nomark _)) (pss_one (ps_set (i := 2) sc_lowest.nd rfl (Or.inl rfl) (Ow.pe_nmi (pe_op op_sub pe_int (pv 2))))) pss_nil)
        (pss_one (ps_ret (pe_tup (pa_cons (pe_op Ow.op_divN (pv 0) (pv 2)) (pa_cons (pe_op Ow.op_divN (pv 1) (pv 2)) pa_nil))))))), ?_⟩
    refine ⟨_, rfl, ?_⟩
    refine ⟨_, rfl, ?_⟩
    refine ⟨_, _, rfl, (by first | assumption | exact Ow.divw64 (by omega) (by omega) | exact Ow.mul0 ⟨by omega, by omega⟩ | exact Ow.mul1 ⟨by omega, by omega⟩ | exact Ow.shl0 (by omega) (by omega) (by omega) | exact ⟨by omega, by omega⟩ | exact ⟨by omega, by omega, by omega⟩ | omega | (subst_vars; omega)), c1, fun common h1 h2 h3 => ?_⟩
    refine ⟨_, rfl, ?_⟩
    refine ⟨_, _, rfl, rfl, ?_⟩
    refine ⟨_, rfl, ?_⟩
    refine Ow.ifd (fun h4 => ?_) (fun h4 => ?_)
    · refine ⟨_, rfl, ?_⟩
      refine ⟨_, _, rfl, rfl, ?_⟩
      refine ⟨_, rfl, fun common_2 h_common_2 => ?_⟩
      have z_common_2 : Ow.Sz 8001 common_2 := by rw [h_common_2]; exact (Ow.Sz.sub (Ow.Sz.mono (Ow.Sz.lit (n := 1) (i := 0) (by decide)) (by decide : 1 ≤ 8000)) h3)
      refine ⟨_, rfl, ?_⟩
      refine ⟨_, rfl, ?_⟩
      refine ⟨_, _, rfl, rfl, Ow.divz (by first | assumption | exact Ow.divw64 (by omega) (by omega) | exact Ow.mul0 ⟨by omega, by omega⟩ | exact Ow.mul1 ⟨by omega, by omega⟩ | exact Ow.shl0 (by omega) (by omega) (by omega) | exact ⟨by omega, by omega⟩ | exact ⟨by omega, by omega, by omega⟩ | omega | (subst_vars; omega)) z_common_2 (by decide) (by decide), fun q h_q => ?_⟩
      have z_q : Ow.Sz 20000 q := by rw [h_q]; exact (Ow.Sz.div c2 (by first | assumption | exact Ow.divw64 (by omega) (by omega) | exact Ow.mul0 ⟨by omega, by omega⟩ | exact Ow.mul1 ⟨by omega, by omega⟩ | exact Ow.shl0 (by omega) (by omega) (by omega) | exact ⟨by omega, by omega⟩ | exact ⟨by omega, by omega, by omega⟩ | omega | (subst_vars; omega)))
      refine ⟨_, rfl, ?_⟩
      refine ⟨_, rfl, ?_⟩
      refine ⟨_, _, rfl, rfl, Ow.divz (by first | assumption | exact Ow.divw64 (by omega) (by omega) | exact Ow.mul0 ⟨by omega, by omega⟩ | exact Ow.mul1 ⟨by omega, by omega⟩ | exact Ow.shl0 (by omega) (by omega) (by omega) | exact ⟨by omega, by omega⟩ | exact ⟨by omega, by omega, by omega⟩ | omega | (subst_vars; omega)) z_common_2 (by decide) (by decide), fun q_2 h_q_2 => ?_⟩
      have z_q_2 : Ow.Sz 8000 q_2 := by rw [h_q_2]; exact (Ow.Sz.div c1 (by first | assumption | exact Ow.divw64 (by omega) (by omega) | exact Ow.mul0 ⟨by omega, by omega⟩ | exact Ow.mul1 ⟨by omega, by omega⟩ | exact Ow.shl0 (by omega) (by omega) (by omega) | exact ⟨by omega, by omega⟩ | exact ⟨by omega, by omega, by omega⟩ | omega | (subst_vars; omega)))
      refine ⟨by show 2 ≤ sizeLine; decide, fun p h_p => ?_⟩
      try have d1 := Ow.lows (t := top) (b := bottom) (g := common) (by assumption) c0
      try rw [← h_q, ← h_q_2] at d1
      try rw [← h_q_3, ← h_q_4] at d1
      exact kont q q_2 common_2 (by first | assumption | exact Ow.divw64 (by omega) (by omega) | exact Ow.mul0 ⟨by omega, by omega⟩ | exact Ow.mul1 ⟨by omega, by omega⟩ | exact Ow.shl0 (by omega) (by omega) (by omega) | exact ⟨by omega, by omega⟩ | exact ⟨by omega, by omega, by omega⟩ | omega | (subst_vars; omega)) (by first | assumption | exact Ow.divw64 (by omega) (by omega) | exact Ow.mul0 ⟨by omega, by omega⟩ | exact Ow.mul1 ⟨by omega, by omega⟩ | exact Ow.shl0 (by omega) (by omega) (by omega) | exact ⟨by omega, by omega⟩ | exact ⟨by omega, by omega, by omega⟩ | omega | (subst_vars; omega)) (by first | assumption | exact Ow.divw64 (by omega) (by omega) | exact Ow.mul0 ⟨by omega, by omega⟩ | exact Ow.mul1 ⟨by omega, by omega⟩ | exact Ow.shl0 (by omega) (by omega) (by omega) | exact ⟨by omega, by omega⟩ | exact ⟨by omega, by omega, by omega⟩ | omega | (subst_vars; omega)) (by first | assumption | exact Ow.divw64 (by omega) (by omega) | exact Ow.mul0 ⟨by omega, by omega⟩ | exact Ow.mul1 ⟨by omega, by omega⟩ | exact Ow.shl0 (by omega) (by omega) (by omega) | exact ⟨by omega, by omega⟩ | exact ⟨by omega, by omega, by omega⟩ | omega | (subst_vars; omega)) (by first | assumption | exact Ow.divw64 (by omega) (by omega) | exact Ow.mul0 ⟨by omega, by omega⟩ | exact Ow.mul1 ⟨by omega, by omega⟩ | exact Ow.shl0 (by omega) (by omega) (by omega) | exact ⟨by omega, by omega⟩ | exact ⟨by omega, by omega, by omega⟩ | omega | (subst_vars; omega)) z_q z_q_2 _ _ (Ow.same_new h_p) h_p upd_same
    · refine ⟨_, rfl, ?_⟩
      refine ⟨_, rfl, ?_⟩
      refine ⟨_, _, rfl, rfl, Ow.divz (by first | assumption | exact Ow.divw64 (by omega) (by omega) | exact Ow.mul0 ⟨by omega, by omega⟩ | exact Ow.mul1 ⟨by omega, by omega⟩ | exact Ow.shl0 (by omega) (by omega) (by omega) | exact ⟨by omega, by omega⟩ | exact ⟨by omega, by omega, by omega⟩ | omega | (subst_vars; omega)) h3 (by decide) (by decide), fun q_3 h_q_3 => ?_⟩
      have z_q_3 : Ow.Sz 20000 q_3 := by rw [h_q_3]; exact (Ow.Sz.div c2 (by first | assumption | exact Ow.divw64 (by omega) (by omega) | exact Ow.mul0 ⟨by omega, by omega⟩ | exact Ow.mul1 ⟨by omega, by omega⟩ | exact Ow.shl0 (by omega) (by omega) (by omega) | exact ⟨by omega, by omega⟩ | exact ⟨by omega, by omega, by omega⟩ | omega | (subst_vars; omega)))
      refine ⟨_, rfl, ?_⟩
      refine ⟨_, rfl, ?_⟩
      refine ⟨_, _, rfl, rfl, Ow.divz (by first | assumption | exact Ow.divw64 (by omega) (by omega) | exact Ow.mul0 ⟨by omega, by omega⟩ | exact Ow.mul1 ⟨by omega, by omega⟩ | exact Ow.shl0 (by omega) (by omega) (by omega) | exact ⟨by omega, by omega⟩ | exact ⟨by omega, by omega, by omega⟩ | omega | (subst_vars; omega)) h3 (by decide) (by decide), fun q_4 h_q_4 => ?_⟩
      have z_q_4 : Ow.Sz 8000 q_4 := by rw [h_q_4]; exact (Ow.Sz.div c1 (by first | assumption | exact Ow.divw64 (by omega) (by omega) | exact Ow.mul0 ⟨by omega, by omega⟩ | exact Ow.mul1 ⟨by omega, by omega⟩ | exact Ow.shl0 (by omega) (by omega) (by omega) | exact ⟨by omega, by omega⟩ | exact ⟨by omega, by omega, by omega⟩ | omega | (subst_vars; omega)))
      refine ⟨by show 2 ≤ sizeLine; decide, fun p_2 h_p_2 => ?_⟩
      try have d1 := Ow.lows (t := top) (b := bottom) (g := common) (by assumption) c0
      try rw [← h_q, ← h_q_2] at d1
      try rw [← h_q_3, ← h_q_4] at d1
      exact kont q_3 q_4 common (by first | assumption | exact Ow.divw64 (by omega) (by omega) | exact Ow.mul0 ⟨by omega, by omega⟩ | exact Ow.mul1 ⟨by omega, by omega⟩ | exact Ow.shl0 (by omega) (by omega) (by omega) | exact ⟨by omega, by omega⟩ | exact ⟨by omega, by omega, by omega⟩ | omega | (subst_vars; omega)) (by first | assumption | exact Ow.divw64 (by omega) (by omega) | exact Ow.mul0 ⟨by omega, by omega⟩ | exact Ow.mul1 ⟨by omega, by omega⟩ | exact Ow.shl0 (by omega) (by omega) (by omega) | exact ⟨by omega, by omega⟩ | exact ⟨by omega, by omega, by omega⟩ | omega | (subst_vars; omega)) (by first | assumption | exact Ow.divw64 (by omega) (by omega) | exact Ow.mul0 ⟨by omega, by omega⟩ | exact Ow.mul1 ⟨by omega, by omega⟩ | exact Ow.shl0 (by omega) (by omega) (by omega) | exact ⟨by omega, by omega⟩ | exact ⟨by omega, by omega, by omega⟩ | omega | (subst_vars; omega)) (by first | assumption | exact Ow.divw64 (by omega) (by omega) | exact Ow.mul0 ⟨by omega, by omega⟩ | exact Ow.mul1 ⟨by omega, by omega⟩ | exact Ow.shl0 (by omega) (by omega) (by omega) | exact ⟨by omega, by omega⟩ | exact ⟨by omega, by omega, by omega⟩ | omega | (subst_vars; omega)) (by first | assumption | exact Ow.divw64 (by omega) (by omega) | exact Ow.mul0 ⟨by omega, by omega⟩ | exact Ow.mul1 ⟨by omega, by omega⟩ | exact Ow.shl0 (by omega) (by omega) (by omega) | exact ⟨by omega, by omega⟩ | exact ⟨by omega, by omega, by omega⟩ | omega | (subst_vars; omega)) z_q_3 z_q_4 _ _ (Ow.same_new h_p_2) h_p_2 upd_same
theorem ok_by_twos (T : Tx K mg) : FnOk P w K mg base CX0 3 T.d_by_twos.f T.d_by_twos.fd ["number", "k"] (sp_by_twos K) := by
  refine T.d_by_twos.F.ok sc_by_twos (fun vs H Q E h => ?_) (fun cdv A outer s H vs Q E hr h => ?_)
  · obtain ⟨number, k, rfl, _⟩ := h
    rfl
  · obtain ⟨number, k, rfl, c0, c1, c2, kont⟩ := h
    refine ⟨_, (pss_one (ps_ret (pe_call (Ow.ok_lowest T) (hr.mono (by decide : 2 ≤ 2)) (by rfl) T.d_lowest.m T.d_lowest.F.kp T.d_lowest.b .nil pass0 (pa_cons (pv 0) (pa_cons (pe_op Ow.op_shl1 pe_int (pv 1)) pa_nil))))), ?_⟩
    refine ⟨_, rfl, ?_⟩
    refine ⟨_, rfl, ?_⟩
    refine ⟨_, rfl, rfl, (by first | assumption | exact Ow.divw64 (by omega) (by omega) | exact Ow.mul0 ⟨by omega, by omega⟩ | exact Ow.mul1 ⟨by omega, by omega⟩ | exact Ow.shl0 (by omega) (by omega) (by omega) | exact ⟨by omega, by omega⟩ | exact ⟨by omega, by omega, by omega⟩ | omega | (subst_vars; omega)), fun B h_B h0_B => ?_⟩
    have z_B : Ow.Sz 2301 B := by rw [h_B]; exact Ow.Sz.pow (n := 2300) (by first | assumption | exact Ow.divw64 (by omega) (by omega) | exact Ow.mul0 ⟨by omega, by omega⟩ | exact Ow.mul1 ⟨by omega, by omega⟩ | exact Ow.shl0 (by omega) (by omega) (by omega) | exact ⟨by omega, by omega⟩ | exact ⟨by omega, by omega, by omega⟩ | omega | (subst_vars; omega))
    refine ⟨_, _, rfl, (by first | assumption | exact Ow.divw64 (by omega) (by omega) | exact Ow.mul0 ⟨by omega, by omega⟩ | exact Ow.mul1 ⟨by omega, by omega⟩ | exact Ow.shl0 (by omega) (by omega) (by omega) | exact ⟨by omega, by omega⟩ | exact ⟨by omega, by omega, by omega⟩ | omega | (subst_vars; omega)), (Ow.Sz.mono z_B (by decide : 2301 ≤ 8000)), c2, fun p q g h1 h2 h3 h4 h5 h6 h7 p_2 Hn h8 h9 h10 => ?_⟩
    exact kont p q g (by first | assumption | exact Ow.divw64 (by omega) (by omega) | exact Ow.mul0 ⟨by omega, by omega⟩ | exact Ow.mul1 ⟨by omega, by omega⟩ | exact Ow.shl0 (by omega) (by omega) (by omega) | exact ⟨by omega, by omega⟩ | exact ⟨by omega, by omega, by omega⟩ | omega | (subst_vars; omega)) (by first | assumption | exact Ow.divw64 (by omega) (by omega) | exact Ow.mul0 ⟨by omega, by omega⟩ | exact Ow.mul1 ⟨by omega, by omega⟩ | exact Ow.shl0 (by omega) (by omega) (by omega) | exact ⟨by omega, by omega⟩ | exact ⟨by omega, by omega, by omega⟩ | omega | (subst_vars; omega)) (by first | assumption | exact Ow.divw64 (by omega) (by omega) | exact Ow.mul0 ⟨by omega, by omega⟩ | exact Ow.mul1 ⟨by omega, by omega⟩ | exact Ow.shl0 (by omega) (by omega) (by omega) | exact ⟨by omega, by omega⟩ | exact ⟨by omega, by omega, by omega⟩ | omega | (subst_vars; omega)) (by first | assumption | exact Ow.divw64 (by omega) (by omega) | exact Ow.mul0 ⟨by omega, by omega⟩ | exact Ow.mul1 ⟨by omega, by omega⟩ | exact Ow.shl0 (by omega) (by omega) (by omega) | exact ⟨by omega, by omega⟩ | exact ⟨by omega, by omega, by omega⟩ | omega | (subst_vars; omega)) (by first | assumption | exact Ow.divw64 (by omega) (by omega) | exact Ow.mul0 ⟨by omega, by omega⟩ | exact Ow.mul1 ⟨by omega, by omega⟩ | exact Ow.shl0 (by omega) (by omega) (by omega) | exact ⟨by omega, by omega⟩ | exact ⟨by omega, by omega, by omega⟩ | omega | (subst_vars; omega)) h6 h7 _ _ h8 h9 h10
theorem ok_l_divisor (T : Tx K mg) : FnOk P w K mg base CX0 1 T.d_l_divisor.f T.d_l_divisor.fd ["_law_one_here", "_law_other"] (sp_l_divisor K) := by
  refine T.d_l_divisor.F.ok sc_l_divisor (fun vs H Q E h => ?_) (fun cdv A outer s H vs Q E hr h => ?_)
  · obtain ⟨one, other, rfl, _⟩ := h
    rfl
  · obtain ⟨one, other, rfl, c0, c1, kont⟩ := h
    refine ⟨_, (pss_cons (ps_set (i := 0) sc_l_divisor.nd rfl (Or.inl rfl) (Ow.pe_nmi (pe_callB call_abs (by rfl) T.z_abs (by decide +kernel) (pa_cons (pv 0) pa_nil))))
        (pss_cons (ps_set (i := 1) sc_l_divisor.nd rfl (Or.inl rfl) (Ow.pe_nmi (pe_callB call_abs (by rfl) T.z_abs (by decide +kernel) (pa_cons (pv 1) pa_nil))))
        (pss_cons (ps_while PassesOwn.never (pt_cmpR op_gt (pv 1) pe_int (nomark _)) (pss_one (ps_par (i := 0) (j := 1) (by rfl) sc_l_divisor.nd rfl rfl (by decide) rfl rfl (pa_cons (pv 1) (pa_cons (pe_op Ow.op_modN (pv 0) (pv 1)) pa_nil)) (by rfl))))
        (pss_one (ps_ret (pv 0)))))), ?_⟩
    refine ⟨_, rfl, ?_⟩
    refine ⟨_, rfl, ?_⟩
    refine ⟨_, rfl, fun ab h_ab => ?_⟩
    have hm_ab := Ow.abs_ite h_ab
    refine ⟨_, rfl, ?_⟩
    refine ⟨_, rfl, ?_⟩
    refine ⟨_, rfl, fun ab_2 h_ab_2 => ?_⟩
    have hm_ab_2 := Ow.abs_ite h_ab_2
    obtain ⟨Wi, h1⟩ : ∃ W : Hp → Nat → L2.St → Hp → Prop, W = fun H0 m σ2 H2 => ∃ (a : Int) (b : Int), m = b.toNat ∧ σ2 = [some (.int (a)), some (.int (b))] ∧ H2 = H0 ∧ (0 ≤ a) ∧ (0 ≤ b) ∧ ((Int.gcd a b : Int) = Int.gcd one other) ∧ True := ⟨_, rfl⟩
    refine ⟨Wi _, ⟨_, by rw [h1]; exact ⟨_, _, rfl, rfl, rfl, (by first | omega | exact congrArg Nat.cast (Ow.gcd_abs h_ab h_ab_2)), (by first | omega | exact congrArg Nat.cast (Ow.gcd_abs h_ab h_ab_2)), (by first | omega | exact congrArg Nat.cast (Ow.gcd_abs h_ab h_ab_2)), trivial⟩⟩, ?_⟩
    intro m σ2 Hn h3
    rw [h1] at h3
    obtain ⟨a, b, rfl, rfl, rfl, h4, h5, h6, _⟩ := h3
    refine ⟨_, rfl, ?_⟩
    refine ⟨_, _, rfl, rfl, ?_⟩
    refine ⟨_, rfl, ?_⟩
    refine Ow.ifd (fun h7 => ?_) (fun h7 => ?_)
    · refine ⟨fun σ3 H3 => ∃ m2, m2 < b.toNat ∧ Wi _ m2 σ3 H3, fun _ _ z => z, ?_⟩
      refine ⟨_, rfl, ?_⟩
      refine ⟨_, rfl, ?_⟩
      refine ⟨_, rfl, ?_⟩
      refine ⟨_, _, rfl, rfl, (by first | assumption | exact Ow.divw64 (by omega) (by omega) | exact Ow.mul0 ⟨by omega, by omega⟩ | exact Ow.mul1 ⟨by omega, by omega⟩ | exact Ow.shl0 (by omega) (by omega) (by omega) | exact ⟨by omega, by omega⟩ | exact ⟨by omega, by omega, by omega⟩ | omega | (subst_vars; omega)), fun r h_r h0_r h1_r => ?_⟩
      refine ⟨_, _, rfl, ?_⟩
      refine ⟨_, ?_, by rw [h1]; exact ⟨_, _, rfl, rfl, rfl, (by first | omega | exact Ow.gcd_step (by assumption) (by assumption) (by assumption) (by assumption)), (by first | omega | exact Ow.gcd_step (by assumption) (by assumption) (by assumption) (by assumption)), (by first | omega | exact Ow.gcd_step (by assumption) (by assumption) (by assumption) (by assumption)), trivial⟩⟩
      first | assumption | exact Ow.divw64 (by omega) (by omega) | exact Ow.mul0 ⟨by omega, by omega⟩ | exact Ow.mul1 ⟨by omega, by omega⟩ | exact Ow.shl0 (by omega) (by omega) (by omega) | exact ⟨by omega, by omega⟩ | exact ⟨by omega, by omega, by omega⟩ | omega | (subst_vars; omega)
    · refine ⟨_, rfl, ?_⟩
      have d0 := Ow.gcd_end (by assumption) (by assumption) (by assumption) (by assumption)
      have d1 := Ow.gcd_size c0 c1 d0
      exact kont a (by first | assumption | omega) (by first | assumption | omega) d1.2
theorem ok_l_fraction (T : Tx K mg) : FnOk P w K mg base CX0 3 T.d_l_fraction.f T.d_l_fraction.fd ["_law_state", "_law_far"] (sp_l_fraction K) := by
  refine T.d_l_fraction.F.ok sc_l_fraction (fun vs H Q E h => ?_) (fun cdv A outer s H vs Q E hr h => ?_)
  · obtain ⟨box, far, a, n, c, rfl, _⟩ := h
    rfl
  · obtain ⟨box, far, a, n, c, rfl, c0, c1, c2, kont⟩ := h
    refine ⟨_, (pss_cons (ps_set (i := 2) sc_l_fraction.nd rfl (Or.inl rfl) (pe_call (Ow.ok_l_number T) (hr.mono (by decide : 2 ≤ 2)) (by rfl) T.d_l_number.m T.d_l_number.F.kp T.d_l_number.b .nil pass0 (pa_cons (pv 0) (pa_cons (pv 1) pa_nil))))
        (pss_cons (ps_set (i := 3) sc_l_fraction.nd rfl (Or.inl rfl) (Ow.pe_nmi (pe_callB call_abs (by rfl) T.z_abs (by decide +kernel) (pa_cons (pe_call (Ow.ok_l_number T) (hr.mono (by decide : 2 ≤ 2)) (by rfl) T.d_l_number.m T.d_l_number.F.kp T.d_l_number.b .nil pass0 (pa_cons (pv 0) (pa_cons (pv 1) pa_nil))) pa_nil))))
        (pss_cons (ps_if (pt_cmpR op_eq (pv 3) pe_int (nomark _)) (pss_one (ps_set (i := 3) sc_l_fraction.nd rfl (Or.inl rfl) (Ow.pe_nmi (pe_op op_add pe_int (pe_call (Ow.ok_l_draw T) (hr.mono (by decide : 1 ≤ 2)) (by rfl) T.d_l_draw.m T.d_l_draw.F.kp T.d_l_draw.b .nil pass0 (pa_cons (pv 0) (pa_cons pe_int pa_nil))))))) pss_nil)
        (pss_cons (ps_set (i := 4) sc_l_fraction.nd rfl (Or.inl rfl) (pe_call (Ow.ok_l_divisor T) (hr.mono (by decide : 1 ≤ 2)) (by rfl) T.d_l_divisor.m T.d_l_divisor.F.kp T.d_l_divisor.b .nil pass0 (pa_cons (pv 2) (pa_cons (pv 3) pa_nil))))
        (pss_one (ps_ret (pe_tup (pa_cons (pe_op Ow.op_divN (pv 2) (pv 4)) (pa_cons (pe_op Ow.op_divN (pv 3) (pv 4)) pa_nil))))))))), ?_⟩
    refine ⟨_, rfl, ?_⟩
    refine ⟨_, rfl, ?_⟩
    refine ⟨_, _, _, _, _, rfl, c0, (by first | assumption | exact Ow.divw64 (by omega) (by omega) | exact Ow.mul0 ⟨by omega, by omega⟩ | exact Ow.mul1 ⟨by omega, by omega⟩ | exact Ow.shl0 (by omega) (by omega) (by omega) | exact ⟨by omega, by omega⟩ | exact ⟨by omega, by omega, by omega⟩ | omega | (subst_vars; omega)), (by first | assumption | exact Ow.divw64 (by omega) (by omega) | exact Ow.mul0 ⟨by omega, by omega⟩ | exact Ow.mul1 ⟨by omega, by omega⟩ | exact Ow.shl0 (by omega) (by omega) (by omega) | exact ⟨by omega, by omega⟩ | exact ⟨by omega, by omega, by omega⟩ | omega | (subst_vars; omega)), fun l_top a2 n2 h1 => ?_⟩
    refine ⟨_, rfl, ?_⟩
    refine ⟨_, rfl, ?_⟩
    refine ⟨_, _, _, _, _, rfl, upd_same, (by first | assumption | exact Ow.divw64 (by omega) (by omega) | exact Ow.mul0 ⟨by omega, by omega⟩ | exact Ow.mul1 ⟨by omega, by omega⟩ | exact Ow.shl0 (by omega) (by omega) (by omega) | exact ⟨by omega, by omega⟩ | exact ⟨by omega, by omega, by omega⟩ | omega | (subst_vars; omega)), (by first | assumption | exact Ow.divw64 (by omega) (by omega) | exact Ow.mul0 ⟨by omega, by omega⟩ | exact Ow.mul1 ⟨by omega, by omega⟩ | exact Ow.shl0 (by omega) (by omega) (by omega) | exact ⟨by omega, by omega⟩ | exact ⟨by omega, by omega, by omega⟩ | omega | (subst_vars; omega)), fun t a2_2 n2_2 h2 => ?_⟩
    refine ⟨_, rfl, ?_⟩
    refine ⟨_, rfl, fun ab h_ab => ?_⟩
    have hm_ab := Ow.abs_ite h_ab
    refine ⟨_, rfl, ?_⟩
    refine ⟨rfl, ?_⟩
    refine ⟨_, rfl, ?_⟩
    refine Ow.ifeqi (fun h3 => ?_) (fun h3 => ?_)
    · refine ⟨_, rfl, ?_⟩
      refine ⟨_, _, _, _, _, rfl, upd_same, (by first | assumption | exact Ow.divw64 (by omega) (by omega) | exact Ow.mul0 ⟨by omega, by omega⟩ | exact Ow.mul1 ⟨by omega, by omega⟩ | exact Ow.shl0 (by omega) (by omega) (by omega) | exact ⟨by omega, by omega⟩ | exact ⟨by omega, by omega, by omega⟩ | omega | (subst_vars; omega)), (by first | assumption | exact Ow.divw64 (by omega) (by omega) | exact Ow.mul0 ⟨by omega, by omega⟩ | exact Ow.mul1 ⟨by omega, by omega⟩ | exact Ow.shl0 (by omega) (by omega) (by omega) | exact ⟨by omega, by omega⟩ | exact ⟨by omega, by omega, by omega⟩ | omega | (subst_vars; omega)), fun t_2 a2_3 n2_3 h4 h5 => ?_⟩
      refine ⟨_, _, rfl, rfl, ?_⟩
      refine ⟨_, rfl, fun l_bottom h_l_bottom => ?_⟩
      have z_l_bottom : Ow.Sz 5 l_bottom := by rw [h_l_bottom]; exact (Ow.Sz.add (Ow.Sz.mono (Ow.Sz.lit (n := 1) (i := 1) (by decide)) (by decide : 1 ≤ 4)) (Ow.Sz.rng (n := 4) h4 h5 (by decide)))
      refine ⟨_, rfl, ?_⟩
      refine ⟨_, rfl, ?_⟩
      refine ⟨_, _, rfl, (by first | assumption | exact Ow.divw64 (by omega) (by omega) | exact Ow.mul0 ⟨by omega, by omega⟩ | exact Ow.mul1 ⟨by omega, by omega⟩ | exact Ow.shl0 (by omega) (by omega) (by omega) | exact ⟨by omega, by omega⟩ | exact ⟨by omega, by omega, by omega⟩ | omega | (subst_vars; omega)), (Ow.Sz.mono z_l_bottom (by decide : 5 ≤ 8000)), fun l_by h6 h7 h8 => ?_⟩
      refine ⟨_, rfl, ?_⟩
      refine ⟨_, rfl, ?_⟩
      refine ⟨_, _, rfl, rfl, Ow.divz (by first | assumption | exact Ow.divw64 (by omega) (by omega) | exact Ow.mul0 ⟨by omega, by omega⟩ | exact Ow.mul1 ⟨by omega, by omega⟩ | exact Ow.shl0 (by omega) (by omega) (by omega) | exact ⟨by omega, by omega⟩ | exact ⟨by omega, by omega, by omega⟩ | omega | (subst_vars; omega)) h8 (by decide) (by decide), fun q h_q => ?_⟩
      have z_q : Ow.Sz 2340 q := by rw [h_q]; exact (Ow.Sz.div h1 (by first | assumption | exact Ow.divw64 (by omega) (by omega) | exact Ow.mul0 ⟨by omega, by omega⟩ | exact Ow.mul1 ⟨by omega, by omega⟩ | exact Ow.shl0 (by omega) (by omega) (by omega) | exact ⟨by omega, by omega⟩ | exact ⟨by omega, by omega, by omega⟩ | omega | (subst_vars; omega)))
      refine ⟨_, rfl, ?_⟩
      refine ⟨_, rfl, ?_⟩
      refine ⟨_, _, rfl, rfl, Ow.divz (by first | assumption | exact Ow.divw64 (by omega) (by omega) | exact Ow.mul0 ⟨by omega, by omega⟩ | exact Ow.mul1 ⟨by omega, by omega⟩ | exact Ow.shl0 (by omega) (by omega) (by omega) | exact ⟨by omega, by omega⟩ | exact ⟨by omega, by omega, by omega⟩ | omega | (subst_vars; omega)) h8 (by decide) (by decide), fun q_2 h_q_2 => ?_⟩
      have z_q_2 : Ow.Sz 5 q_2 := by rw [h_q_2]; exact (Ow.Sz.div z_l_bottom (by first | assumption | exact Ow.divw64 (by omega) (by omega) | exact Ow.mul0 ⟨by omega, by omega⟩ | exact Ow.mul1 ⟨by omega, by omega⟩ | exact Ow.shl0 (by omega) (by omega) (by omega) | exact ⟨by omega, by omega⟩ | exact ⟨by omega, by omega, by omega⟩ | omega | (subst_vars; omega)))
      refine ⟨by show 2 ≤ sizeLine; decide, fun p h_p => ?_⟩
      have d1 := Ow.lows (t := l_top) (b := l_bottom) (g := l_by) (by assumption) (by omega)
      try rw [← h_q, ← h_q_2] at d1
      try rw [← h_q_3, ← h_q_4] at d1
      try rw [← h_q_5, ← h_q_6] at d1
      exact kont q q_2 a2_3 n2_3 z_q (by first | assumption | exact Ow.divw64 (by omega) (by omega) | exact Ow.mul0 ⟨by omega, by omega⟩ | exact Ow.mul1 ⟨by omega, by omega⟩ | exact Ow.shl0 (by omega) (by omega) (by omega) | exact ⟨by omega, by omega⟩ | exact ⟨by omega, by omega, by omega⟩ | omega | (subst_vars; omega)) (Ow.Sz.mono z_q_2 (by decide : 5 ≤ 2340)) _ _ ((((Ow.Fm.refl.mut).mut).mut).same (Ow.same_new h_p)) (Ow.at_new h_p upd_same) (Ow.Fm.free (((Ow.Fm.refl.mut).mut).mut) upd_same h_p) upd_same
    · refine ⟨_, rfl, ?_⟩
      refine ⟨_, rfl, ?_⟩
      refine ⟨_, _, rfl, (by first | assumption | exact Ow.divw64 (by omega) (by omega) | exact Ow.mul0 ⟨by omega, by omega⟩ | exact Ow.mul1 ⟨by omega, by omega⟩ | exact Ow.shl0 (by omega) (by omega) (by omega) | exact ⟨by omega, by omega⟩ | exact ⟨by omega, by omega, by omega⟩ | omega | (subst_vars; omega)), (Ow.Sz.mono (Ow.Sz.abs h2 h_ab) (by decide : 2340 ≤ 8000)), fun l_by_2 h9 h10 h11 => ?_⟩
      refine ⟨_, rfl, ?_⟩
      refine ⟨_, rfl, ?_⟩
      refine ⟨_, _, rfl, rfl, Ow.divz (by first | assumption | exact Ow.divw64 (by omega) (by omega) | exact Ow.mul0 ⟨by omega, by omega⟩ | exact Ow.mul1 ⟨by omega, by omega⟩ | exact Ow.shl0 (by omega) (by omega) (by omega) | exact ⟨by omega, by omega⟩ | exact ⟨by omega, by omega, by omega⟩ | omega | (subst_vars; omega)) h11 (by decide) (by decide), fun q_3 h_q_3 => ?_⟩
      have z_q_3 : Ow.Sz 2340 q_3 := by rw [h_q_3]; exact (Ow.Sz.div h1 (by first | assumption | exact Ow.divw64 (by omega) (by omega) | exact Ow.mul0 ⟨by omega, by omega⟩ | exact Ow.mul1 ⟨by omega, by omega⟩ | exact Ow.shl0 (by omega) (by omega) (by omega) | exact ⟨by omega, by omega⟩ | exact ⟨by omega, by omega, by omega⟩ | omega | (subst_vars; omega)))
      refine ⟨_, rfl, ?_⟩
      refine ⟨_, rfl, ?_⟩
      refine ⟨_, _, rfl, rfl, Ow.divz (by first | assumption | exact Ow.divw64 (by omega) (by omega) | exact Ow.mul0 ⟨by omega, by omega⟩ | exact Ow.mul1 ⟨by omega, by omega⟩ | exact Ow.shl0 (by omega) (by omega) (by omega) | exact ⟨by omega, by omega⟩ | exact ⟨by omega, by omega, by omega⟩ | omega | (subst_vars; omega)) h11 (by decide) (by decide), fun q_4 h_q_4 => ?_⟩
      have z_q_4 : Ow.Sz 2340 q_4 := by rw [h_q_4]; exact (Ow.Sz.div (Ow.Sz.abs h2 h_ab) (by first | assumption | exact Ow.divw64 (by omega) (by omega) | exact Ow.mul0 ⟨by omega, by omega⟩ | exact Ow.mul1 ⟨by omega, by omega⟩ | exact Ow.shl0 (by omega) (by omega) (by omega) | exact ⟨by omega, by omega⟩ | exact ⟨by omega, by omega, by omega⟩ | omega | (subst_vars; omega)))
      refine ⟨by show 2 ≤ sizeLine; decide, fun p_2 h_p_2 => ?_⟩
      have d1 := Ow.lows (t := l_top) (b := ab) (g := l_by_2) (by assumption) (by omega)
      try rw [← h_q, ← h_q_2] at d1
      try rw [← h_q_3, ← h_q_4] at d1
      try rw [← h_q_5, ← h_q_6] at d1
      exact kont q_3 q_4 a2_2 n2_2 z_q_3 (by first | assumption | exact Ow.divw64 (by omega) (by omega) | exact Ow.mul0 ⟨by omega, by omega⟩ | exact Ow.mul1 ⟨by omega, by omega⟩ | exact Ow.shl0 (by omega) (by omega) (by omega) | exact ⟨by omega, by omega⟩ | exact ⟨by omega, by omega, by omega⟩ | omega | (subst_vars; omega)) z_q_4 _ _ (((Ow.Fm.refl.mut).mut).same (Ow.same_new h_p_2)) (Ow.at_new h_p_2 upd_same) (Ow.Fm.free ((Ow.Fm.refl.mut).mut) upd_same h_p_2) upd_same
theorem ok_l_power (T : Tx K mg) : FnOk P w K mg base CX0 1 T.d_l_power.f T.d_l_power.fd ["_law_k"] (sp_l_power K) := by
  refine T.d_l_power.F.ok sc_l_power (fun vs H Q E h => ?_) (fun cdv A outer s H vs Q E hr h => ?_)
  · obtain ⟨k, rfl, _⟩ := h
    rfl
  · obtain ⟨k, rfl, c0, c1, kont⟩ := h
    refine ⟨_, (pss_one (ps_ret (pe_op Ow.op_shl1 pe_int (pv 0)))), ?_⟩
    refine ⟨_, rfl, ?_⟩
    refine ⟨_, rfl, rfl, (by first | assumption | exact Ow.divw64 (by omega) (by omega) | exact Ow.mul0 ⟨by omega, by omega⟩ | exact Ow.mul1 ⟨by omega, by omega⟩ | exact Ow.shl0 (by omega) (by omega) (by omega) | exact ⟨by omega, by omega⟩ | exact ⟨by omega, by omega, by omega⟩ | omega | (subst_vars; omega)), fun B h_B h0_B => ?_⟩
    have z_B : Ow.Sz 2103 B := by rw [h_B]; exact Ow.Sz.pow (n := 2102) (by first | assumption | exact Ow.divw64 (by omega) (by omega) | exact Ow.mul0 ⟨by omega, by omega⟩ | exact Ow.mul1 ⟨by omega, by omega⟩ | exact Ow.shl0 (by omega) (by omega) (by omega) | exact ⟨by omega, by omega⟩ | exact ⟨by omega, by omega, by omega⟩ | omega | (subst_vars; omega))
    exact kont B (by first | assumption | exact Ow.divw64 (by omega) (by omega) | exact Ow.mul0 ⟨by omega, by omega⟩ | exact Ow.mul1 ⟨by omega, by omega⟩ | exact Ow.shl0 (by omega) (by omega) (by omega) | exact ⟨by omega, by omega⟩ | exact ⟨by omega, by omega, by omega⟩ | omega | (subst_vars; omega)) (by first | assumption | exact Ow.divw64 (by omega) (by omega) | exact Ow.mul0 ⟨by omega, by omega⟩ | exact Ow.mul1 ⟨by omega, by omega⟩ | exact Ow.shl0 (by omega) (by omega) (by omega) | exact ⟨by omega, by omega⟩ | exact ⟨by omega, by omega, by omega⟩ | omega | (subst_vars; omega)) (Ow.Sz.mono z_B (by decide : 2103 ≤ 2300))
theorem ok_raised (T : Tx K mg) : FnOk P w K mg base CX0 4 T.d_raised.f T.d_raised.fd ["one", "k"] (sp_raised K) := by
  refine T.d_raised.F.ok sc_raised (fun vs H Q E h => ?_) (fun cdv A outer s H vs Q E hr h => ?_)
  · obtain ⟨one, k, t, b, rfl, _⟩ := h
    rfl
  · obtain ⟨one, k, t, b, rfl, c0, c1, c2, c3, c4, c5, kont⟩ := h
    refine ⟨_, (pss_cons (ps_asg (pv 0) (pg_tup rfl (pgs_cons (pg_name (i := 2) sc_raised.nd rfl (Or.inl rfl)) (pgs_cons (pg_name (i := 3) sc_raised.nd rfl (Or.inl rfl)) pgs_nil))))
        (pss_one (ps_ret (pe_call (Ow.ok_by_twos T) (hr.mono (by decide : 3 ≤ 3)) (by rfl) T.d_by_twos.m T.d_by_twos.F.kp T.d_by_twos.b .nil pass0 (pa_cons (pe_op op_sub pe_int (pe_op Ow.op_divN (pe_op op_sub pe_int (pe_op Ow.op_shlN (pv 2) (pv 1))) (pv 3))) (pa_cons (pv 1) pa_nil)))))), ?_⟩
    refine ⟨_, rfl, ?_⟩
    refine ⟨_, _, rfl, (SqT.of c0), rfl, ?_⟩
    refine ⟨_, _, rfl, ?_⟩
    refine ⟨_, _, rfl, ?_⟩
    refine ⟨rfl, ?_⟩
    refine ⟨_, rfl, ?_⟩
    refine ⟨_, rfl, ?_⟩
    refine ⟨_, _, rfl, rfl, (.inr (Ow.shlz (n := 2300) c1 (by first | assumption | exact Ow.divw64 (by omega) (by omega) | exact Ow.mul0 ⟨by omega, by omega⟩ | exact Ow.mul1 ⟨by omega, by omega⟩ | exact Ow.shl0 (by omega) (by omega) (by omega) | exact ⟨by omega, by omega⟩ | exact ⟨by omega, by omega, by omega⟩ | omega | (subst_vars; omega)) (by first | assumption | exact Ow.divw64 (by omega) (by omega) | exact Ow.mul0 ⟨by omega, by omega⟩ | exact Ow.mul1 ⟨by omega, by omega⟩ | exact Ow.shl0 (by omega) (by omega) (by omega) | exact ⟨by omega, by omega⟩ | exact ⟨by omega, by omega, by omega⟩ | omega | (subst_vars; omega)) (by decide))), fun s h_s => ?_⟩
    have z_s : Ow.Sz 10301 s := by rw [h_s]; exact (Ow.Sz.shl (n := 2300) c1 (by first | assumption | exact Ow.divw64 (by omega) (by omega) | exact Ow.mul0 ⟨by omega, by omega⟩ | exact Ow.mul1 ⟨by omega, by omega⟩ | exact Ow.shl0 (by omega) (by omega) (by omega) | exact ⟨by omega, by omega⟩ | exact ⟨by omega, by omega, by omega⟩ | omega | (subst_vars; omega)))
    refine ⟨_, _, rfl, rfl, ?_⟩
    refine ⟨_, rfl, ?_⟩
    refine ⟨_, _, rfl, rfl, Ow.divz (by first | assumption | exact Ow.divw64 (by omega) (by omega) | exact Ow.mul0 ⟨by omega, by omega⟩ | exact Ow.mul1 ⟨by omega, by omega⟩ | exact Ow.shl0 (by omega) (by omega) (by omega) | exact ⟨by omega, by omega⟩ | exact ⟨by omega, by omega, by omega⟩ | omega | (subst_vars; omega)) c2 (by decide) (by decide), fun q h_q => ?_⟩
    have z_q : Ow.Sz 10302 q := by rw [h_q]; exact (Ow.Sz.div (Ow.Sz.sub (Ow.Sz.mono (Ow.Sz.lit (n := 1) (i := 0) (by decide)) (by decide : 1 ≤ 10301)) z_s) (by first | assumption | exact Ow.divw64 (by omega) (by omega) | exact Ow.mul0 ⟨by omega, by omega⟩ | exact Ow.mul1 ⟨by omega, by omega⟩ | exact Ow.shl0 (by omega) (by omega) (by omega) | exact ⟨by omega, by omega⟩ | exact ⟨by omega, by omega, by omega⟩ | omega | (subst_vars; omega)))
    refine ⟨_, _, rfl, rfl, ?_⟩
    refine ⟨_, rfl, ?_⟩
    refine ⟨_, _, rfl, (by first | assumption | exact Ow.divw64 (by omega) (by omega) | exact Ow.mul0 ⟨by omega, by omega⟩ | exact Ow.mul1 ⟨by omega, by omega⟩ | exact Ow.shl0 (by omega) (by omega) (by omega) | exact ⟨by omega, by omega⟩ | exact ⟨by omega, by omega, by omega⟩ | omega | (subst_vars; omega)), (by first | assumption | exact Ow.divw64 (by omega) (by omega) | exact Ow.mul0 ⟨by omega, by omega⟩ | exact Ow.mul1 ⟨by omega, by omega⟩ | exact Ow.shl0 (by omega) (by omega) (by omega) | exact ⟨by omega, by omega⟩ | exact ⟨by omega, by omega, by omega⟩ | omega | (subst_vars; omega)), (Ow.Sz.mono (Ow.Sz.sub (Ow.Sz.mono (Ow.Sz.lit (n := 1) (i := 0) (by decide)) (by decide : 1 ≤ 10302)) z_q) (by decide : 10303 ≤ 20000)), fun p q_2 g h1 h2 h3 h4 h5 h6 h7 p_2 Hn h8 h9 h10 => ?_⟩
    have d0 : Ow.up t b k = 0 - q := by rw [h_q, h_s]; unfold Ow.up; simp only [Int.zero_sub]
    exact kont p q_2 g (by first | assumption | exact Ow.divw64 (by omega) (by omega) | exact Ow.mul0 ⟨by omega, by omega⟩ | exact Ow.mul1 ⟨by omega, by omega⟩ | exact Ow.shl0 (by omega) (by omega) (by omega) | exact ⟨by omega, by omega⟩ | exact ⟨by omega, by omega, by omega⟩ | omega | (subst_vars; omega)) (by first | assumption | exact Ow.divw64 (by omega) (by omega) | exact Ow.mul0 ⟨by omega, by omega⟩ | exact Ow.mul1 ⟨by omega, by omega⟩ | exact Ow.shl0 (by omega) (by omega) (by omega) | exact ⟨by omega, by omega⟩ | exact ⟨by omega, by omega, by omega⟩ | omega | (subst_vars; omega)) (by first | assumption | exact Ow.divw64 (by omega) (by omega) | exact Ow.mul0 ⟨by omega, by omega⟩ | exact Ow.mul1 ⟨by omega, by omega⟩ | exact Ow.shl0 (by omega) (by omega) (by omega) | exact ⟨by omega, by omega⟩ | exact ⟨by omega, by omega, by omega⟩ | omega | (subst_vars; omega)) (by first | assumption | exact Ow.divw64 (by omega) (by omega) | exact Ow.mul0 ⟨by omega, by omega⟩ | exact Ow.mul1 ⟨by omega, by omega⟩ | exact Ow.shl0 (by omega) (by omega) (by omega) | exact ⟨by omega, by omega⟩ | exact ⟨by omega, by omega, by omega⟩ | omega | (subst_vars; omega)) (by first | assumption | exact Ow.divw64 (by omega) (by omega) | exact Ow.mul0 ⟨by omega, by omega⟩ | exact Ow.mul1 ⟨by omega, by omega⟩ | exact Ow.shl0 (by omega) (by omega) (by omega) | exact ⟨by omega, by omega⟩ | exact ⟨by omega, by omega, by omega⟩ | omega | (subst_vars; omega)) h6 h7 _ _ h8 h9 h10
theorem ok_l_whole (T : Tx K mg) : FnOk P w K mg base CX0 1 T.d_l_whole.f T.d_l_whole.fd ["_law_found"] (sp_l_whole K) := by
  refine T.d_l_whole.F.ok sc_l_whole (fun vs H Q E h => ?_) (fun cdv A outer s H vs Q E hr h => ?_)
  · obtain ⟨found, rfl, _⟩ := h
    rfl
  · obtain ⟨found, rfl, kont⟩ := h
    refine ⟨_, (pss_one (ps_ret (pe_and (pe_callB call_isi (by rfl) T.z_isinstance (by decide +kernel) (pa_cons (pv 0) (pa_cons (pe_bltn (v := .ty "int") (by rfl) T.z_int (by decide +kernel) rfl) pa_nil))) (pe_one (pe_not (pe_callB call_isi (by rfl) T.z_isinstance (by decide +kernel) (pa_cons (pv 0) (pa_cons (pe_bltn (v := .ty "bool") (by rfl) T.z_bool (by decide +kernel) rfl) pa_nil)))))))), ?_⟩
    refine ⟨_, rfl, ?_⟩
    refine ⟨_, _, _, _, true, rfl, .ty _, .base (.int _), kit_ty (by decide +kernel), ?_⟩
    refine ⟨_, rfl, ?_⟩
    refine iteT ?_
    refine ⟨_, rfl, ?_⟩
    refine ⟨_, _, _, _, false, rfl, .ty _, .base (.int _), kit_ty (by decide +kernel), ?_⟩
    refine ⟨_, rfl, ?_⟩
    exact kont
theorem ok_l_is_fraction (T : Tx K mg) : FnOk P w K mg base CX0 2 T.d_l_is_fraction.f T.d_l_is_fraction.fd ["_law_found"] (sp_l_is_fraction K) := by
  refine T.d_l_is_fraction.F.ok sc_l_is_fraction (fun vs H Q E h => ?_) (fun cdv A outer s H vs Q E hr h => ?_)
  · obtain ⟨found, t, b, rfl, _⟩ := h
    rfl
  · obtain ⟨found, t, b, rfl, c0, c1, c2, c3, kont⟩ := h
    refine ⟨_, (pss_cons (ps_if (PW.pt (pw_or (pt_not (pt_val (pe_callB call_isi (by rfl) T.z_isinstance (by decide +kernel) (pa_cons (pv 0) (pa_cons (pe_bltn (v := .ty "tuple") (by rfl) T.z_tuple (by decide +kernel) rfl) pa_nil))))) (pw_or (pt_cmpR op_ne (Ow.pe_nmi (pe_callB call_len_seq (by rfl) T.z_len (by decide +kernel) (pa_cons (pv 0) pa_nil))) pe_int (nomark _)) (pw_or (pt_not (pt_val (pe_call (Ow.ok_l_whole T) (hr.mono (by decide : 1 ≤ 1)) (by rfl) T.d_l_whole.m T.d_l_whole.F.kp T.d_l_whole.b .nil pass0 (pa_cons (pe_ix ix_tup (pv 0) pe_int (fun _ _ => rfl)) pa_nil)))) (pw_or1 (pt_not (pt_val (pe_call (Ow.ok_l_whole T) (hr.mono (by decide : 1 ≤ 1)) (by rfl) T.d_l_whole.m T.d_l_whole.F.kp T.d_l_whole.b .nil pass0 (pa_cons (pe_ix ix_tup (pv 0) pe_int (fun _ _ => rfl)) pa_nil))))))))) (pss_one (ps_ret pe_bl)) pss_nil)
        (pss_one (ps_ret (pe_and (pe_cmpR op_gt (pe_ix ix_tup (pv 0) pe_int (fun _ _ => rfl)) pe_int (nomark _)) (pe_one (pe_cmpR op_eq (pe_call (Ow.ok_l_divisor T) (hr.mono (by decide : 1 ≤ 1)) (by rfl) T.d_l_divisor.m T.d_l_divisor.F.kp T.d_l_divisor.b .nil pass0 (pa_cons (pe_ix ix_tup (pv 0) pe_int (fun _ _ => rfl)) (pa_cons (pe_ix ix_tup (pv 0) pe_int (fun _ _ => rfl)) pa_nil))) pe_int (nomark _))))))), ?_⟩
    refine ⟨_, rfl, ?_⟩
    refine ⟨_, _, _, _, true, rfl, .ty _, .base (.tup c0), kit_ty (by decide +kernel), ?_⟩
    refine ⟨_, rfl, ?_⟩
    refine iteF ?_
    refine ⟨_, rfl, ?_⟩
    refine ⟨_, _, rfl, .inr (SqT.of c0), ?_⟩
    refine ⟨_, rfl, fun len h_len => ?_⟩
    replace h_len : len = 2 := h_len
    refine ⟨rfl, ?_⟩
    refine ⟨_, rfl, ?_⟩
    refine Ow.ifnei (fun h1 => ?_) (fun h1 => ?_)
    · refine iteT ?_
      exact ((by first | assumption | exact Ow.divw64 (by omega) (by omega) | exact Ow.mul0 ⟨by omega, by omega⟩ | exact Ow.mul1 ⟨by omega, by omega⟩ | exact Ow.shl0 (by omega) (by omega) (by omega) | exact ⟨by omega, by omega⟩ | exact ⟨by omega, by omega, by omega⟩ | omega | (subst_vars; omega)) : False).elim
    · refine ⟨_, rfl, ?_⟩
      refine ⟨_, _, _, _, rfl, rfl, (SqT.of c0), (by first | rfl | decide), ?_⟩
      refine ⟨_, rfl, ?_⟩
      refine ⟨_, rfl, ?_⟩
      refine iteF ?_
      refine ⟨_, rfl, ?_⟩
      refine ⟨_, _, _, _, rfl, rfl, (SqT.of c0), (by first | rfl | decide), ?_⟩
      refine ⟨_, rfl, ?_⟩
      refine ⟨_, rfl, ?_⟩
      refine iteF ?_
      refine ⟨_, rfl, ?_⟩
      refine ⟨_, _, _, _, rfl, rfl, (SqT.of c0), (by first | rfl | decide), ?_⟩
      refine ⟨_, _, rfl, rfl, ?_⟩
      refine ⟨_, rfl, ?_⟩
      refine Ow.ifd (fun h2 => ?_) (fun h2 => ?_)
      · refine ⟨_, rfl, ?_⟩
        refine ⟨_, _, _, _, rfl, rfl, (SqT.of c0), (by first | rfl | decide), ?_⟩
        refine ⟨_, rfl, ?_⟩
        refine ⟨_, _, _, _, rfl, rfl, (SqT.of c0), (by first | rfl | decide), ?_⟩
        refine ⟨_, _, rfl, (by first | assumption | exact Ow.divw64 (by omega) (by omega) | exact Ow.mul0 ⟨by omega, by omega⟩ | exact Ow.mul1 ⟨by omega, by omega⟩ | exact Ow.shl0 (by omega) (by omega) (by omega) | exact ⟨by omega, by omega⟩ | exact ⟨by omega, by omega, by omega⟩ | omega | (subst_vars; omega)), c2, fun t_2 h3 h4 h5 => ?_⟩
        refine ⟨rfl, ?_⟩
        refine Ow.eqeqi (by first | assumption | exact Ow.divw64 (by omega) (by omega) | exact Ow.mul0 ⟨by omega, by omega⟩ | exact Ow.mul1 ⟨by omega, by omega⟩ | exact Ow.shl0 (by omega) (by omega) (by omega) | exact ⟨by omega, by omega⟩ | exact ⟨by omega, by omega, by omega⟩ | omega | (subst_vars; omega)) ?_
        exact kont
      · exact ((by first | assumption | exact Ow.divw64 (by omega) (by omega) | exact Ow.mul0 ⟨by omega, by omega⟩ | exact Ow.mul1 ⟨by omega, by omega⟩ | exact Ow.shl0 (by omega) (by omega) (by omega) | exact ⟨by omega, by omega⟩ | exact ⟨by omega, by omega, by omega⟩ | omega | (subst_vars; omega)) : False).elim
theorem ok_l_raised (T : Tx K mg) : FnOk P w K mg base CX0 5 T.d_l_raised.f T.d_l_raised.fd ["_law_one_here", "_law_k"] (sp_l_raised K) := by
  refine T.d_l_raised.F.ok sc_l_raised (fun vs H Q E h => ?_) (fun cdv A outer s H vs Q E hr h => ?_)
  · obtain ⟨one, k, t, b, rfl, _⟩ := h
    rfl
  · obtain ⟨one, k, t, b, rfl, c0, c1, c2, c3, c4, c5, kont⟩ := h
    refine ⟨_, (pss_cons (ps_set (i := 2) sc_l_raised.nd rfl (Or.inl rfl) (pe_call (Ow.ok_raised T) (hr.mono (by decide : 4 ≤ 4)) (by rfl) T.d_raised.m T.d_raised.F.kp T.d_raised.b .nil pass0 (pa_cons (pv 0) (pa_cons (pv 1) pa_nil))))
        (pss_cons (ps_if (PW.pt (pw_or (pt_not (pt_val (pe_call (Ow.ok_l_is_fraction T) (hr.mono (by decide : 2 ≤ 4)) (by rfl) T.d_l_is_fraction.m T.d_l_is_fraction.F.kp T.d_l_is_fraction.b .nil pass0 (pa_cons (pv 2) pa_nil)))) (pw_or1 (pt_cmpR op_ne (pe_op Ow.op_modN (pe_call (Ow.ok_l_power T) (hr.mono (by decide : 1 ≤ 4)) (by rfl) T.d_l_power.m T.d_l_power.F.kp T.d_l_power.b .nil pass0 (pa_cons (pv 1) pa_nil)) (pe_ix ix_tup (pv 2) pe_int (fun _ _ => rfl))) pe_int (nomark _))))) (pss_one (ps_ret pe_bl)) pss_nil)
        (pss_cons (ps_set (i := 3) sc_l_raised.nd rfl (Or.inl rfl) (Ow.pe_nmi (pe_op op_sub (pe_op Ow.op_mulN (pe_ix ix_tup (pv 2) pe_int (fun _ _ => rfl)) (pe_ix ix_tup (pv 0) pe_int (fun _ _ => rfl))) (pe_op Ow.op_mulN (pe_ix ix_tup (pv 0) pe_int (fun _ _ => rfl)) (pe_ix ix_tup (pv 2) pe_int (fun _ _ => rfl))))))
        (pss_one (ps_ret (pe_and (pe_cmpR op_le pe_int (pv 3) (nomark _)) (pe_one (pe_cmpR op_lt (pe_op Ow.op_mulN (pv 3) (pe_call (Ow.ok_l_power T) (hr.mono (by decide : 1 ≤ 4)) (by rfl) T.d_l_power.m T.d_l_power.F.kp T.d_l_power.b .nil pass0 (pa_cons (pv 1) pa_nil))) (pe_op Ow.op_mulN (pe_ix ix_tup (pv 0) pe_int (fun _ _ => rfl)) (pe_ix ix_tup (pv 2) pe_int (fun _ _ => rfl))) (nomark _))))))))), ?_⟩
    refine ⟨_, rfl, ?_⟩
    refine ⟨_, rfl, ?_⟩
    refine ⟨_, _, _, _, rfl, c0, (Ow.Sz.mono c2 (by decide : 4000 ≤ 8000)), (Ow.Sz.mono c3 (by decide : 4000 ≤ 8000)), (by first | assumption | exact Ow.divw64 (by omega) (by omega) | exact Ow.mul0 ⟨by omega, by omega⟩ | exact Ow.mul1 ⟨by omega, by omega⟩ | exact Ow.shl0 (by omega) (by omega) (by omega) | exact ⟨by omega, by omega⟩ | exact ⟨by omega, by omega, by omega⟩ | omega | (subst_vars; omega)), (by first | assumption | exact Ow.divw64 (by omega) (by omega) | exact Ow.mul0 ⟨by omega, by omega⟩ | exact Ow.mul1 ⟨by omega, by omega⟩ | exact Ow.shl0 (by omega) (by omega) (by omega) | exact ⟨by omega, by omega⟩ | exact ⟨by omega, by omega, by omega⟩ | omega | (subst_vars; omega)), (by first | assumption | exact Ow.divw64 (by omega) (by omega) | exact Ow.mul0 ⟨by omega, by omega⟩ | exact Ow.mul1 ⟨by omega, by omega⟩ | exact Ow.shl0 (by omega) (by omega) (by omega) | exact ⟨by omega, by omega⟩ | exact ⟨by omega, by omega, by omega⟩ | omega | (subst_vars; omega)), fun p q g h1 h2 h3 h4 h5 h6 h7 p_2 Hn h8 h9 h10 => ?_⟩
    have d1 := Ow.raise1 (p := p) (q := q) (g := g) (t := t) (b := b) (k := k) (by assumption) (by assumption) (by assumption) (by assumption) (by assumption)
    refine ⟨_, rfl, ?_⟩
    refine ⟨_, _, _, rfl, h10, (by first | assumption | exact Ow.divw64 (by omega) (by omega) | exact Ow.mul0 ⟨by omega, by omega⟩ | exact Ow.mul1 ⟨by omega, by omega⟩ | exact Ow.shl0 (by omega) (by omega) (by omega) | exact ⟨by omega, by omega⟩ | exact ⟨by omega, by omega, by omega⟩ | omega | (subst_vars; omega)), h7, (by first | assumption | exact Ow.divw64 (by omega) (by omega) | exact Ow.mul0 ⟨by omega, by omega⟩ | exact Ow.mul1 ⟨by omega, by omega⟩ | exact Ow.shl0 (by omega) (by omega) (by omega) | exact ⟨by omega, by omega⟩ | exact ⟨by omega, by omega, by omega⟩ | omega | (subst_vars; omega)), ?_⟩
    refine ⟨_, rfl, ?_⟩
    refine iteF ?_
    refine ⟨_, rfl, ?_⟩
    refine ⟨_, rfl, (by first | assumption | exact Ow.divw64 (by omega) (by omega) | exact Ow.mul0 ⟨by omega, by omega⟩ | exact Ow.mul1 ⟨by omega, by omega⟩ | exact Ow.shl0 (by omega) (by omega) (by omega) | exact ⟨by omega, by omega⟩ | exact ⟨by omega, by omega, by omega⟩ | omega | (subst_vars; omega)), (by first | assumption | exact Ow.divw64 (by omega) (by omega) | exact Ow.mul0 ⟨by omega, by omega⟩ | exact Ow.mul1 ⟨by omega, by omega⟩ | exact Ow.shl0 (by omega) (by omega) (by omega) | exact ⟨by omega, by omega⟩ | exact ⟨by omega, by omega, by omega⟩ | omega | (subst_vars; omega)), fun t_2 h11 h12 h13 => ?_⟩
    refine ⟨_, rfl, ?_⟩
    refine ⟨_, _, _, _, rfl, rfl, (SqT.of h10), (by first | rfl | decide), ?_⟩
    refine ⟨_, _, rfl, rfl, (by first | assumption | exact Ow.divw64 (by omega) (by omega) | exact Ow.mul0 ⟨by omega, by omega⟩ | exact Ow.mul1 ⟨by omega, by omega⟩ | exact Ow.shl0 (by omega) (by omega) (by omega) | exact ⟨by omega, by omega⟩ | exact ⟨by omega, by omega, by omega⟩ | omega | (subst_vars; omega)), fun r h_r h0_r h1_r => ?_⟩
    refine ⟨rfl, ?_⟩
    refine ⟨_, rfl, ?_⟩
    refine Ow.ifnei (fun h14 => ?_) (fun h14 => ?_)
    · exact ((by first | assumption | exact Ow.divw64 (by omega) (by omega) | exact Ow.mul0 ⟨by omega, by omega⟩ | exact Ow.mul1 ⟨by omega, by omega⟩ | exact Ow.shl0 (by omega) (by omega) (by omega) | exact ⟨by omega, by omega⟩ | exact ⟨by omega, by omega, by omega⟩ | omega | (subst_vars; omega)) : False).elim
    · refine ⟨_, rfl, ?_⟩
      refine ⟨_, _, _, _, rfl, rfl, (SqT.of h10), (by first | rfl | decide), ?_⟩
      refine ⟨_, rfl, ?_⟩
      refine ⟨_, _, _, _, rfl, rfl, (SqT.of (h8 _ _ c0)), (by first | rfl | decide), ?_⟩
      refine ⟨_, _, rfl, rfl, (.inr (Ow.mulx h6 c3 (by decide))), fun m h_m => ?_⟩
      have z_m : Ow.Sz 24000 m := by rw [h_m]; exact (Ow.Sz.mul h6 c3)
      refine ⟨_, rfl, ?_⟩
      refine ⟨_, _, _, _, rfl, rfl, (SqT.of (h8 _ _ c0)), (by first | rfl | decide), ?_⟩
      refine ⟨_, rfl, ?_⟩
      refine ⟨_, _, _, _, rfl, rfl, (SqT.of h10), (by first | rfl | decide), ?_⟩
      refine ⟨_, _, rfl, rfl, (.inr (Ow.mulx c2 h7 (by decide))), fun m_2 h_m_2 => ?_⟩
      have z_m_2 : Ow.Sz 12000 m_2 := by rw [h_m_2]; exact (Ow.Sz.mul c2 h7)
      refine ⟨_, _, rfl, rfl, ?_⟩
      refine ⟨_, rfl, fun l_above h_l_above => ?_⟩
      have z_l_above : Ow.Sz 24001 l_above := by rw [h_l_above]; exact (Ow.Sz.sub z_m (Ow.Sz.mono z_m_2 (by decide : 12000 ≤ 24000)))
      refine ⟨_, rfl, ?_⟩
      refine ⟨_, _, rfl, rfl, ?_⟩
      refine ⟨_, rfl, ?_⟩
      refine Ow.ifd (fun h15 => ?_) (fun h15 => ?_)
      · refine ⟨_, rfl, ?_⟩
        refine ⟨_, rfl, ?_⟩
        refine ⟨_, rfl, (by first | assumption | exact Ow.divw64 (by omega) (by omega) | exact Ow.mul0 ⟨by omega, by omega⟩ | exact Ow.mul1 ⟨by omega, by omega⟩ | exact Ow.shl0 (by omega) (by omega) (by omega) | exact ⟨by omega, by omega⟩ | exact ⟨by omega, by omega, by omega⟩ | omega | (subst_vars; omega)), (by first | assumption | exact Ow.divw64 (by omega) (by omega) | exact Ow.mul0 ⟨by omega, by omega⟩ | exact Ow.mul1 ⟨by omega, by omega⟩ | exact Ow.shl0 (by omega) (by omega) (by omega) | exact ⟨by omega, by omega⟩ | exact ⟨by omega, by omega, by omega⟩ | omega | (subst_vars; omega)), fun t_3 h16 h17 h18 => ?_⟩
        refine ⟨_, _, rfl, rfl, (.inr (Ow.mulx z_l_above h18 (by decide))), fun m_3 h_m_3 => ?_⟩
        have z_m_3 : Ow.Sz 26301 m_3 := by rw [h_m_3]; exact (Ow.Sz.mul z_l_above h18)
        refine ⟨_, rfl, ?_⟩
        refine ⟨_, _, _, _, rfl, rfl, (SqT.of (h8 _ _ c0)), (by first | rfl | decide), ?_⟩
        refine ⟨_, rfl, ?_⟩
        refine ⟨_, _, _, _, rfl, rfl, (SqT.of h10), (by first | rfl | decide), ?_⟩
        refine ⟨_, _, rfl, rfl, (.inr (Ow.mulx c3 h7 (by decide))), fun m_4 h_m_4 => ?_⟩
        have z_m_4 : Ow.Sz 12000 m_4 := by rw [h_m_4]; exact (Ow.Sz.mul c3 h7)
        refine ⟨_, _, rfl, rfl, ?_⟩
        refine Ow.eqd (by first | assumption | exact Ow.divw64 (by omega) (by omega) | exact Ow.mul0 ⟨by omega, by omega⟩ | exact Ow.mul1 ⟨by omega, by omega⟩ | exact Ow.shl0 (by omega) (by omega) (by omega) | exact ⟨by omega, by omega⟩ | exact ⟨by omega, by omega, by omega⟩ | omega | (subst_vars; omega)) ?_
        exact kont _ h8
      · exact ((by first | assumption | exact Ow.divw64 (by omega) (by omega) | exact Ow.mul0 ⟨by omega, by omega⟩ | exact Ow.mul1 ⟨by omega, by omega⟩ | exact Ow.shl0 (by omega) (by omega) (by omega) | exact ⟨by omega, by omega⟩ | exact ⟨by omega, by omega, by omega⟩ | omega | (subst_vars; omega)) : False).elim
theorem ok_l_one (T : Tx K mg) : FnOk P w K mg base CX0 6 T.d_l_one.f T.d_l_one.fd ["_law_cell_here", "_law_far"] (sp_l_one K) := by
  refine T.d_l_one.F.ok sc_l_one (fun vs H Q E h => ?_) (fun cdv A outer s H vs Q E hr h => ?_)
  · obtain ⟨cell, far, rfl, _⟩ := h
    rfl
  · obtain ⟨cell, far, rfl, c0, c1, kont⟩ := h
    refine ⟨_, (pss_cons (ps_set (i := 2) sc_l_one.nd rfl (Or.inl rfl) (pe_call (Ow.ok_l_begun T) (hr.mono (by decide : 1 ≤ 5)) (by rfl) T.d_l_begun.m T.d_l_begun.F.kp T.d_l_begun.b .nil pass0 (pa_cons (pv 0) pa_nil)))
        (pss_cons (ps_set (i := 3) sc_l_one.nd rfl (Or.inl rfl) (pe_call (Ow.ok_l_draw T) (hr.mono (by decide : 1 ≤ 5)) (by rfl) T.d_l_draw.m T.d_l_draw.F.kp T.d_l_draw.b .nil pass0 (pa_cons (pv 2) (pa_cons (pe_ix ix_list (pe_lst (pa_cons pe_int (pa_cons pe_int (pa_cons pe_int pa_nil)))) (pe_call (Ow.ok_l_draw T) (hr.mono (by decide : 1 ≤ 5)) (by rfl) T.d_l_draw.m T.d_l_draw.F.kp T.d_l_draw.b .nil pass0 (pa_cons (pv 2) (pa_cons pe_int pa_nil))) (fun _ _ => rfl)) pa_nil))))
        (pss_cons (ps_set (i := 4) sc_l_one.nd rfl (Or.inl rfl) (pe_call (Ow.ok_l_number T) (hr.mono (by decide : 2 ≤ 5)) (by rfl) T.d_l_number.m T.d_l_number.F.kp T.d_l_number.b .nil pass0 (pa_cons (pv 2) (pa_cons (pv 1) pa_nil))))
        (pss_cons (ps_set (i := 5) sc_l_one.nd rfl (Or.inl rfl) (pe_call (Ow.ok_by_twos T) (hr.mono (by decide : 3 ≤ 5)) (by rfl) T.d_by_twos.m T.d_by_twos.F.kp T.d_by_twos.b .nil pass0 (pa_cons (pv 4) (pa_cons (pv 3) pa_nil))))
        (pss_cons (ps_if (PW.pt (pw_or (pt_not (pt_val (pe_call (Ow.ok_l_is_fraction T) (hr.mono (by decide : 2 ≤ 5)) (by rfl) T.d_l_is_fraction.m T.d_l_is_fraction.F.kp T.d_l_is_fraction.b .nil pass0 (pa_cons (pv 5) pa_nil)))) (pw_or1 (pt_cmpR op_ne (pe_op Ow.op_mulN (pe_ix ix_tup (pv 5) pe_int (fun _ _ => rfl)) (pe_call (Ow.ok_l_power T) (hr.mono (by decide : 1 ≤ 5)) (by rfl) T.d_l_power.m T.d_l_power.F.kp T.d_l_power.b .nil pass0 (pa_cons (pv 3) pa_nil))) (pe_op Ow.op_mulN (pv 4) (pe_ix ix_tup (pv 5) pe_int (fun _ _ => rfl))) (nomark _))))) (pss_one (ps_ret pe_bl)) pss_nil)
        (pss_cons (ps_set (i := 6) sc_l_one.nd rfl (Or.inl rfl) (pe_call (Ow.ok_l_fraction T) (hr.mono (by decide : 3 ≤ 5)) (by rfl) T.d_l_fraction.m T.d_l_fraction.F.kp T.d_l_fraction.b .nil pass0 (pa_cons (pv 2) (pa_cons (pv 1) pa_nil))))
        (pss_cons (ps_if (pt_cmpR op_eq (pe_call (Ow.ok_l_draw T) (hr.mono (by decide : 1 ≤ 5)) (by rfl) T.d_l_draw.m T.d_l_draw.F.kp T.d_l_draw.b .nil pass0 (pa_cons (pv 2) (pa_cons pe_int pa_nil))) pe_int (nomark _)) (pss_cons (ps_set (i := 7) sc_l_one.nd rfl (Or.inl rfl) (pe_call (Ow.ok_l_power T) (hr.mono (by decide : 1 ≤ 5)) (by rfl) T.d_l_power.m T.d_l_power.F.kp T.d_l_power.b .nil pass0 (pa_cons (pe_op op_add (pv 3) (pe_call (Ow.ok_l_draw T) (hr.mono (by decide : 1 ≤ 5)) (by rfl) T.d_l_draw.m T.d_l_draw.F.kp T.d_l_draw.b .nil pass0 (pa_cons (pv 2) (pa_cons pe_int pa_nil)))) pa_nil)))
        (pss_cons (ps_set (i := 8) sc_l_one.nd rfl (Or.inl rfl) (pe_call (Ow.ok_l_divisor T) (hr.mono (by decide : 1 ≤ 5)) (by rfl) T.d_l_divisor.m T.d_l_divisor.F.kp T.d_l_divisor.b .nil pass0 (pa_cons (pv 4) (pa_cons (pv 7) pa_nil))))
        (pss_one (ps_set (i := 6) sc_l_one.nd rfl (Or.inl rfl) (pe_tup (pa_cons (pe_op Ow.op_divN (pv 4) (pv 8)) (pa_cons (pe_op Ow.op_divN (pv 7) (pv 8)) pa_nil))))))) pss_nil)
        (pss_one (ps_ret (pe_and (pe_call (Ow.ok_l_raised T) (hr.mono (by decide : 5 ≤ 5)) (by rfl) T.d_l_raised.m T.d_l_raised.F.kp T.d_l_raised.b .nil pass0 (pa_cons (pv 6) (pa_cons (pv 3) pa_nil))) (pe_and (pe_call (Ow.ok_l_raised T) (hr.mono (by decide : 5 ≤ 5)) (by rfl) T.d_l_raised.m T.d_l_raised.F.kp T.d_l_raised.b .nil pass0 (pa_cons (pe_tup (pa_cons (pe_op op_sub pe_int (pe_ix ix_tup (pv 6) pe_int (fun _ _ => rfl))) (pa_cons (pe_ix ix_tup (pv 6) pe_int (fun _ _ => rfl)) pa_nil))) (pa_cons (pv 3) pa_nil))) (pe_one (pe_call (Ow.ok_l_raised T) (hr.mono (by decide : 5 ≤ 5)) (by rfl) T.d_l_raised.m T.d_l_raised.F.kp T.d_l_raised.b .nil pass0 (pa_cons (pv 6) (pa_cons (pv 3) pa_nil))))))))))))))), ?_⟩
    refine ⟨_, rfl, ?_⟩
    refine ⟨_, rfl, fun a n p h_p => ?_⟩
    refine ⟨_, rfl, ?_⟩
    refine ⟨by show 3 ≤ sizeLine; decide, fun p_2 h_p_2 => ?_⟩
    refine ⟨_, rfl, ?_⟩
    refine ⟨_, _, _, _, _, rfl, (Ow.at_new h_p_2 upd_same), (by first | assumption | exact Ow.divw64 (by omega) (by omega) | exact Ow.mul0 ⟨by omega, by omega⟩ | exact Ow.mul1 ⟨by omega, by omega⟩ | exact Ow.shl0 (by omega) (by omega) (by omega) | exact ⟨by omega, by omega⟩ | exact ⟨by omega, by omega, by omega⟩ | omega | (subst_vars; omega)), (by first | assumption | exact Ow.divw64 (by omega) (by omega) | exact Ow.mul0 ⟨by omega, by omega⟩ | exact Ow.mul1 ⟨by omega, by omega⟩ | exact Ow.shl0 (by omega) (by omega) (by omega) | exact ⟨by omega, by omega⟩ | exact ⟨by omega, by omega, by omega⟩ | omega | (subst_vars; omega)), fun t a2 n2 h1 h2 => ?_⟩
    refine Ow.ixi3 (SqL.of (Ow.at_mut (Ow.ne_sym (ne_of_none upd_same h_p_2)) upd_same)) (by first | assumption | exact Ow.divw64 (by omega) (by omega) | exact Ow.mul0 ⟨by omega, by omega⟩ | exact Ow.mul1 ⟨by omega, by omega⟩ | exact Ow.shl0 (by omega) (by omega) (by omega) | exact ⟨by omega, by omega⟩ | exact ⟨by omega, by omega, by omega⟩ | omega | (subst_vars; omega)) (fun it h_it => ?_)
    have z_it : Ow.Sz 12 it := by rcases h_it with ⟨_, rfl⟩ | ⟨_, rfl⟩ | ⟨_, rfl⟩ <;> first | exact (Ow.Sz.mono (Ow.Sz.lit (n := 4) (i := 9) (by decide)) (by decide : 4 ≤ 12)) | exact (Ow.Sz.mono (Ow.Sz.lit (n := 7) (i := 81) (by decide)) (by decide : 7 ≤ 12)) | exact (Ow.Sz.lit (n := 12) (i := 2101) (by decide))
    refine ⟨_, _, _, _, _, rfl, upd_same, (by first | assumption | exact Ow.divw64 (by omega) (by omega) | exact Ow.mul0 ⟨by omega, by omega⟩ | exact Ow.mul1 ⟨by omega, by omega⟩ | exact Ow.shl0 (by omega) (by omega) (by omega) | exact ⟨by omega, by omega⟩ | exact ⟨by omega, by omega, by omega⟩ | omega | (subst_vars; omega)), (by first | assumption | exact Ow.divw64 (by omega) (by omega) | exact Ow.mul0 ⟨by omega, by omega⟩ | exact Ow.mul1 ⟨by omega, by omega⟩ | exact Ow.shl0 (by omega) (by omega) (by omega) | exact ⟨by omega, by omega⟩ | exact ⟨by omega, by omega, by omega⟩ | omega | (subst_vars; omega)), fun l_k a2_2 n2_2 h3 h4 => ?_⟩
    refine ⟨_, rfl, ?_⟩
    refine ⟨_, rfl, ?_⟩
    refine ⟨_, _, _, _, _, rfl, upd_same, (by first | assumption | exact Ow.divw64 (by omega) (by omega) | exact Ow.mul0 ⟨by omega, by omega⟩ | exact Ow.mul1 ⟨by omega, by omega⟩ | exact Ow.shl0 (by omega) (by omega) (by omega) | exact ⟨by omega, by omega⟩ | exact ⟨by omega, by omega, by omega⟩ | omega | (subst_vars; omega)), (by first | assumption | exact Ow.divw64 (by omega) (by omega) | exact Ow.mul0 ⟨by omega, by omega⟩ | exact Ow.mul1 ⟨by omega, by omega⟩ | exact Ow.shl0 (by omega) (by omega) (by omega) | exact ⟨by omega, by omega⟩ | exact ⟨by omega, by omega, by omega⟩ | omega | (subst_vars; omega)), fun l_number_here a2_3 n2_3 h5 => ?_⟩
    refine ⟨_, rfl, ?_⟩
    refine ⟨_, rfl, ?_⟩
    refine ⟨_, _, rfl, (by first | assumption | exact Ow.divw64 (by omega) (by omega) | exact Ow.mul0 ⟨by omega, by omega⟩ | exact Ow.mul1 ⟨by omega, by omega⟩ | exact Ow.shl0 (by omega) (by omega) (by omega) | exact ⟨by omega, by omega⟩ | exact ⟨by omega, by omega, by omega⟩ | omega | (subst_vars; omega)), (by first | assumption | exact Ow.divw64 (by omega) (by omega) | exact Ow.mul0 ⟨by omega, by omega⟩ | exact Ow.mul1 ⟨by omega, by omega⟩ | exact Ow.shl0 (by omega) (by omega) (by omega) | exact ⟨by omega, by omega⟩ | exact ⟨by omega, by omega, by omega⟩ | omega | (subst_vars; omega)), (Ow.Sz.mono h5 (by decide : 2340 ≤ 20000)), fun p_3 q g h6 h7 h8 h9 h10 h11 h12 p_4 Hn h13 h14 h15 => ?_⟩
    have d1 := Ow.by2 (n := l_number_here) (p := p_3) (q := q) (g := g) (K := 2 ^ l_k.toNat) (by assumption) (by assumption)
    refine ⟨_, rfl, ?_⟩
    refine ⟨_, _, _, rfl, h15, (by first | assumption | exact Ow.divw64 (by omega) (by omega) | exact Ow.mul0 ⟨by omega, by omega⟩ | exact Ow.mul1 ⟨by omega, by omega⟩ | exact Ow.shl0 (by omega) (by omega) (by omega) | exact ⟨by omega, by omega⟩ | exact ⟨by omega, by omega, by omega⟩ | omega | (subst_vars; omega)), h12, (by first | assumption | exact Ow.divw64 (by omega) (by omega) | exact Ow.mul0 ⟨by omega, by omega⟩ | exact Ow.mul1 ⟨by omega, by omega⟩ | exact Ow.shl0 (by omega) (by omega) (by omega) | exact ⟨by omega, by omega⟩ | exact ⟨by omega, by omega, by omega⟩ | omega | (subst_vars; omega)), ?_⟩
    refine ⟨_, rfl, ?_⟩
    refine iteF ?_
    refine ⟨_, rfl, ?_⟩
    refine ⟨_, _, _, _, rfl, rfl, (SqT.of h15), (by first | rfl | decide), ?_⟩
    refine ⟨_, rfl, ?_⟩
    refine ⟨_, rfl, (by first | assumption | exact Ow.divw64 (by omega) (by omega) | exact Ow.mul0 ⟨by omega, by omega⟩ | exact Ow.mul1 ⟨by omega, by omega⟩ | exact Ow.shl0 (by omega) (by omega) (by omega) | exact ⟨by omega, by omega⟩ | exact ⟨by omega, by omega, by omega⟩ | omega | (subst_vars; omega)), (by first | assumption | exact Ow.divw64 (by omega) (by omega) | exact Ow.mul0 ⟨by omega, by omega⟩ | exact Ow.mul1 ⟨by omega, by omega⟩ | exact Ow.shl0 (by omega) (by omega) (by omega) | exact ⟨by omega, by omega⟩ | exact ⟨by omega, by omega, by omega⟩ | omega | (subst_vars; omega)), fun t_2 h16 h17 h18 => ?_⟩
    refine ⟨_, _, rfl, rfl, (.inr (Ow.mulx h11 h18 (by decide))), fun m h_m => ?_⟩
    have z_m : Ow.Sz 22300 m := by rw [h_m]; exact (Ow.Sz.mul h11 h18)
    refine ⟨_, rfl, ?_⟩
    refine ⟨_, rfl, ?_⟩
    refine ⟨_, _, _, _, rfl, rfl, (SqT.of h15), (by first | rfl | decide), ?_⟩
    refine ⟨_, _, rfl, rfl, (.inr (Ow.mulx h5 h12 (by decide))), fun m_2 h_m_2 => ?_⟩
    have z_m_2 : Ow.Sz 10340 m_2 := by rw [h_m_2]; exact (Ow.Sz.mul h5 h12)
    refine ⟨rfl, ?_⟩
    refine ⟨_, rfl, ?_⟩
    refine Ow.ifnei (fun h19 => ?_) (fun h19 => ?_)
    · exact ((by first | assumption | exact Ow.divw64 (by omega) (by omega) | exact Ow.mul0 ⟨by omega, by omega⟩ | exact Ow.mul1 ⟨by omega, by omega⟩ | exact Ow.shl0 (by omega) (by omega) (by omega) | exact ⟨by omega, by omega⟩ | exact ⟨by omega, by omega, by omega⟩ | omega | (subst_vars; omega)) : False).elim
    · refine ⟨_, rfl, ?_⟩
      refine ⟨_, rfl, ?_⟩
      refine ⟨_, _, _, _, _, rfl, (h13 _ _ upd_same), (by first | assumption | exact Ow.divw64 (by omega) (by omega) | exact Ow.mul0 ⟨by omega, by omega⟩ | exact Ow.mul1 ⟨by omega, by omega⟩ | exact Ow.shl0 (by omega) (by omega) (by omega) | exact ⟨by omega, by omega⟩ | exact ⟨by omega, by omega, by omega⟩ | omega | (subst_vars; omega)), (by first | assumption | exact Ow.divw64 (by omega) (by omega) | exact Ow.mul0 ⟨by omega, by omega⟩ | exact Ow.mul1 ⟨by omega, by omega⟩ | exact Ow.shl0 (by omega) (by omega) (by omega) | exact ⟨by omega, by omega⟩ | exact ⟨by omega, by omega, by omega⟩ | omega | (subst_vars; omega)), fun t_3 b a2_4 n2_4 h20 h21 h22 p_5 Hn_2 h23 h24 h25 h26 => ?_⟩
      refine ⟨_, rfl, ?_⟩
      refine ⟨_, _, _, _, _, rfl, h24, (by first | assumption | exact Ow.divw64 (by omega) (by omega) | exact Ow.mul0 ⟨by omega, by omega⟩ | exact Ow.mul1 ⟨by omega, by omega⟩ | exact Ow.shl0 (by omega) (by omega) (by omega) | exact ⟨by omega, by omega⟩ | exact ⟨by omega, by omega, by omega⟩ | omega | (subst_vars; omega)), (by first | assumption | exact Ow.divw64 (by omega) (by omega) | exact Ow.mul0 ⟨by omega, by omega⟩ | exact Ow.mul1 ⟨by omega, by omega⟩ | exact Ow.shl0 (by omega) (by omega) (by omega) | exact ⟨by omega, by omega⟩ | exact ⟨by omega, by omega, by omega⟩ | omega | (subst_vars; omega)), fun t_4 a2_5 n2_5 h27 h28 => ?_⟩
      refine ⟨rfl, ?_⟩
      refine ⟨_, rfl, ?_⟩
      refine Ow.ifeqi (fun h29 => ?_) (fun h29 => ?_)
      · refine ⟨_, rfl, ?_⟩
        refine ⟨_, rfl, ?_⟩
        refine ⟨_, _, _, _, _, rfl, upd_same, (by first | assumption | exact Ow.divw64 (by omega) (by omega) | exact Ow.mul0 ⟨by omega, by omega⟩ | exact Ow.mul1 ⟨by omega, by omega⟩ | exact Ow.shl0 (by omega) (by omega) (by omega) | exact ⟨by omega, by omega⟩ | exact ⟨by omega, by omega, by omega⟩ | omega | (subst_vars; omega)), (by first | assumption | exact Ow.divw64 (by omega) (by omega) | exact Ow.mul0 ⟨by omega, by omega⟩ | exact Ow.mul1 ⟨by omega, by omega⟩ | exact Ow.shl0 (by omega) (by omega) (by omega) | exact ⟨by omega, by omega⟩ | exact ⟨by omega, by omega, by omega⟩ | omega | (subst_vars; omega)), fun t_5 a2_6 n2_6 h30 h31 => ?_⟩
        refine ⟨_, _, rfl, rfl, ?_⟩
        refine ⟨_, rfl, (by first | assumption | exact Ow.divw64 (by omega) (by omega) | exact Ow.mul0 ⟨by omega, by omega⟩ | exact Ow.mul1 ⟨by omega, by omega⟩ | exact Ow.shl0 (by omega) (by omega) (by omega) | exact ⟨by omega, by omega⟩ | exact ⟨by omega, by omega, by omega⟩ | omega | (subst_vars; omega)), (by first | assumption | exact Ow.divw64 (by omega) (by omega) | exact Ow.mul0 ⟨by omega, by omega⟩ | exact Ow.mul1 ⟨by omega, by omega⟩ | exact Ow.shl0 (by omega) (by omega) (by omega) | exact ⟨by omega, by omega⟩ | exact ⟨by omega, by omega, by omega⟩ | omega | (subst_vars; omega)), fun l_power_here h32 h33 h34 => ?_⟩
        refine ⟨_, rfl, ?_⟩
        refine ⟨_, rfl, ?_⟩
        refine ⟨_, _, rfl, (by first | assumption | exact Ow.divw64 (by omega) (by omega) | exact Ow.mul0 ⟨by omega, by omega⟩ | exact Ow.mul1 ⟨by omega, by omega⟩ | exact Ow.shl0 (by omega) (by omega) (by omega) | exact ⟨by omega, by omega⟩ | exact ⟨by omega, by omega, by omega⟩ | omega | (subst_vars; omega)), (Ow.Sz.mono h34 (by decide : 2300 ≤ 8000)), fun l_by h35 h36 h37 => ?_⟩
        refine ⟨_, rfl, ?_⟩
        refine ⟨_, rfl, ?_⟩
        refine ⟨_, _, rfl, rfl, Ow.divz (by first | assumption | exact Ow.divw64 (by omega) (by omega) | exact Ow.mul0 ⟨by omega, by omega⟩ | exact Ow.mul1 ⟨by omega, by omega⟩ | exact Ow.shl0 (by omega) (by omega) (by omega) | exact ⟨by omega, by omega⟩ | exact ⟨by omega, by omega, by omega⟩ | omega | (subst_vars; omega)) h37 (by decide) (by decide), fun q_2 h_q_2 => ?_⟩
        have z_q_2 : Ow.Sz 2340 q_2 := by rw [h_q_2]; exact (Ow.Sz.div h5 (by first | assumption | exact Ow.divw64 (by omega) (by omega) | exact Ow.mul0 ⟨by omega, by omega⟩ | exact Ow.mul1 ⟨by omega, by omega⟩ | exact Ow.shl0 (by omega) (by omega) (by omega) | exact ⟨by omega, by omega⟩ | exact ⟨by omega, by omega, by omega⟩ | omega | (subst_vars; omega)))
        refine ⟨_, rfl, ?_⟩
        refine ⟨_, rfl, ?_⟩
        refine ⟨_, _, rfl, rfl, Ow.divz (by first | assumption | exact Ow.divw64 (by omega) (by omega) | exact Ow.mul0 ⟨by omega, by omega⟩ | exact Ow.mul1 ⟨by omega, by omega⟩ | exact Ow.shl0 (by omega) (by omega) (by omega) | exact ⟨by omega, by omega⟩ | exact ⟨by omega, by omega, by omega⟩ | omega | (subst_vars; omega)) h37 (by decide) (by decide), fun q_3 h_q_3 => ?_⟩
        have z_q_3 : Ow.Sz 2300 q_3 := by rw [h_q_3]; exact (Ow.Sz.div h34 (by first | assumption | exact Ow.divw64 (by omega) (by omega) | exact Ow.mul0 ⟨by omega, by omega⟩ | exact Ow.mul1 ⟨by omega, by omega⟩ | exact Ow.shl0 (by omega) (by omega) (by omega) | exact ⟨by omega, by omega⟩ | exact ⟨by omega, by omega, by omega⟩ | omega | (subst_vars; omega)))
        refine ⟨by show 2 ≤ sizeLine; decide, fun p_6 h_p_6 => ?_⟩
        try have d2 := Ow.lows (t := l_number_here) (b := l_power_here) (g := l_by) (by assumption) (by omega)
        refine ⟨_, rfl, ?_⟩
        refine ⟨_, rfl, ?_⟩
        refine ⟨_, _, _, _, rfl, upd_same, (by first | assumption | exact Ow.divw64 (by omega) (by omega) | exact Ow.mul0 ⟨by omega, by omega⟩ | exact Ow.mul1 ⟨by omega, by omega⟩ | exact Ow.shl0 (by omega) (by omega) (by omega) | exact ⟨by omega, by omega⟩ | exact ⟨by omega, by omega, by omega⟩ | omega | (subst_vars; omega)), (Ow.Sz.mono z_q_2 (by decide : 2340 ≤ 4000)), (Ow.Sz.mono z_q_3 (by decide : 2300 ≤ 4000)), (by first | assumption | exact Ow.divw64 (by omega) (by omega) | exact Ow.mul0 ⟨by omega, by omega⟩ | exact Ow.mul1 ⟨by omega, by omega⟩ | exact Ow.shl0 (by omega) (by omega) (by omega) | exact ⟨by omega, by omega⟩ | exact ⟨by omega, by omega, by omega⟩ | omega | (subst_vars; omega)), (by first | assumption | exact Ow.divw64 (by omega) (by omega) | exact Ow.mul0 ⟨by omega, by omega⟩ | exact Ow.mul1 ⟨by omega, by omega⟩ | exact Ow.shl0 (by omega) (by omega) (by omega) | exact ⟨by omega, by omega⟩ | exact ⟨by omega, by omega, by omega⟩ | omega | (subst_vars; omega)), fun Hn_3 h38 => ?_⟩
        refine ⟨_, rfl, ?_⟩
        refine iteT ?_
        refine ⟨_, rfl, ?_⟩
        refine ⟨_, _, _, _, rfl, rfl, (SqT.of (h38 _ _ upd_same)), (by first | rfl | decide), ?_⟩
        refine ⟨_, _, rfl, rfl, ?_⟩
        refine ⟨_, rfl, ?_⟩
        refine ⟨_, _, _, _, rfl, rfl, (SqT.of (h38 _ _ upd_same)), (by first | rfl | decide), ?_⟩
        refine ⟨by show 2 ≤ sizeLine; decide, fun p_7 h_p_7 => ?_⟩
        refine ⟨_, rfl, ?_⟩
        refine ⟨_, _, _, _, rfl, upd_same, (by first | assumption | exact Ow.divw64 (by omega) (by omega) | exact Ow.mul0 ⟨by omega, by omega⟩ | exact Ow.mul1 ⟨by omega, by omega⟩ | exact Ow.shl0 (by omega) (by omega) (by omega) | exact ⟨by omega, by omega⟩ | exact ⟨by omega, by omega, by omega⟩ | omega | (subst_vars; omega)), (Ow.Sz.mono (Ow.Sz.sub (Ow.Sz.mono (Ow.Sz.lit (n := 1) (i := 0) (by decide)) (by decide : 1 ≤ 2340)) z_q_2) (by decide : 2341 ≤ 4000)), (Ow.Sz.mono z_q_3 (by decide : 2300 ≤ 4000)), (by first | assumption | exact Ow.divw64 (by omega) (by omega) | exact Ow.mul0 ⟨by omega, by omega⟩ | exact Ow.mul1 ⟨by omega, by omega⟩ | exact Ow.shl0 (by omega) (by omega) (by omega) | exact ⟨by omega, by omega⟩ | exact ⟨by omega, by omega, by omega⟩ | omega | (subst_vars; omega)), (by first | assumption | exact Ow.divw64 (by omega) (by omega) | exact Ow.mul0 ⟨by omega, by omega⟩ | exact Ow.mul1 ⟨by omega, by omega⟩ | exact Ow.shl0 (by omega) (by omega) (by omega) | exact ⟨by omega, by omega⟩ | exact ⟨by omega, by omega, by omega⟩ | omega | (subst_vars; omega)), fun Hn_4 h39 => ?_⟩
        refine ⟨_, rfl, ?_⟩
        refine iteT ?_
        refine ⟨_, rfl, ?_⟩
        refine ⟨_, rfl, ?_⟩
        refine ⟨_, _, _, _, rfl, (h39 _ _ (Ow.at_new h_p_7 (h38 _ _ upd_same))), (by first | assumption | exact Ow.divw64 (by omega) (by omega) | exact Ow.mul0 ⟨by omega, by omega⟩ | exact Ow.mul1 ⟨by omega, by omega⟩ | exact Ow.shl0 (by omega) (by omega) (by omega) | exact ⟨by omega, by omega⟩ | exact ⟨by omega, by omega, by omega⟩ | omega | (subst_vars; omega)), (Ow.Sz.mono z_q_2 (by decide : 2340 ≤ 4000)), (Ow.Sz.mono z_q_3 (by decide : 2300 ≤ 4000)), (by first | assumption | exact Ow.divw64 (by omega) (by omega) | exact Ow.mul0 ⟨by omega, by omega⟩ | exact Ow.mul1 ⟨by omega, by omega⟩ | exact Ow.shl0 (by omega) (by omega) (by omega) | exact ⟨by omega, by omega⟩ | exact ⟨by omega, by omega, by omega⟩ | omega | (subst_vars; omega)), (by first | assumption | exact Ow.divw64 (by omega) (by omega) | exact Ow.mul0 ⟨by omega, by omega⟩ | exact Ow.mul1 ⟨by omega, by omega⟩ | exact Ow.shl0 (by omega) (by omega) (by omega) | exact ⟨by omega, by omega⟩ | exact ⟨by omega, by omega, by omega⟩ | omega | (subst_vars; omega)), fun Hn_5 h40 => ?_⟩
        exact kont _ ((((((Ow.same_mut (Ow.same_mut (Ow.same_frame ((Ow.same_mut (Ow.same_mut (Ow.same_mut ((Ow.same_new h_p).trans (Ow.same_new h_p_2)) h_p) h_p) h_p).trans h13) h23 h_p) h_p) h_p).trans (Ow.same_new h_p_6)).trans h38).trans (Ow.same_new h_p_7)).trans h39).trans h40)
      · try have d2 := Ow.lows (t := l_number_here) (b := l_power_here) (g := l_by) (by assumption) (by omega)
        refine ⟨_, rfl, ?_⟩
        refine ⟨_, rfl, ?_⟩
        refine ⟨_, _, _, _, rfl, (Ow.at_mut (Ow.ne_sym (ne_of_none (h13 _ _ upd_same) h25)) h26), (by first | assumption | exact Ow.divw64 (by omega) (by omega) | exact Ow.mul0 ⟨by omega, by omega⟩ | exact Ow.mul1 ⟨by omega, by omega⟩ | exact Ow.shl0 (by omega) (by omega) (by omega) | exact ⟨by omega, by omega⟩ | exact ⟨by omega, by omega, by omega⟩ | omega | (subst_vars; omega)), (Ow.Sz.mono h20 (by decide : 2340 ≤ 4000)), (Ow.Sz.mono h22 (by decide : 2340 ≤ 4000)), (by first | assumption | exact Ow.divw64 (by omega) (by omega) | exact Ow.mul0 ⟨by omega, by omega⟩ | exact Ow.mul1 ⟨by omega, by omega⟩ | exact Ow.shl0 (by omega) (by omega) (by omega) | exact ⟨by omega, by omega⟩ | exact ⟨by omega, by omega, by omega⟩ | omega | (subst_vars; omega)), (by first | assumption | exact Ow.divw64 (by omega) (by omega) | exact Ow.mul0 ⟨by omega, by omega⟩ | exact Ow.mul1 ⟨by omega, by omega⟩ | exact Ow.shl0 (by omega) (by omega) (by omega) | exact ⟨by omega, by omega⟩ | exact ⟨by omega, by omega, by omega⟩ | omega | (subst_vars; omega)), fun Hn_6 h41 => ?_⟩
        refine ⟨_, rfl, ?_⟩
        refine iteT ?_
        refine ⟨_, rfl, ?_⟩
        refine ⟨_, _, _, _, rfl, rfl, (SqT.of (h41 _ _ (Ow.at_mut (Ow.ne_sym (ne_of_none (h13 _ _ upd_same) h25)) h26))), (by first | rfl | decide), ?_⟩
        refine ⟨_, _, rfl, rfl, ?_⟩
        refine ⟨_, rfl, ?_⟩
        refine ⟨_, _, _, _, rfl, rfl, (SqT.of (h41 _ _ (Ow.at_mut (Ow.ne_sym (ne_of_none (h13 _ _ upd_same) h25)) h26))), (by first | rfl | decide), ?_⟩
        refine ⟨by show 2 ≤ sizeLine; decide, fun p_8 h_p_8 => ?_⟩
        refine ⟨_, rfl, ?_⟩
        refine ⟨_, _, _, _, rfl, upd_same, (by first | assumption | exact Ow.divw64 (by omega) (by omega) | exact Ow.mul0 ⟨by omega, by omega⟩ | exact Ow.mul1 ⟨by omega, by omega⟩ | exact Ow.shl0 (by omega) (by omega) (by omega) | exact ⟨by omega, by omega⟩ | exact ⟨by omega, by omega, by omega⟩ | omega | (subst_vars; omega)), (Ow.Sz.mono (Ow.Sz.sub (Ow.Sz.mono (Ow.Sz.lit (n := 1) (i := 0) (by decide)) (by decide : 1 ≤ 2340)) h20) (by decide : 2341 ≤ 4000)), (Ow.Sz.mono h22 (by decide : 2340 ≤ 4000)), (by first | assumption | exact Ow.divw64 (by omega) (by omega) | exact Ow.mul0 ⟨by omega, by omega⟩ | exact Ow.mul1 ⟨by omega, by omega⟩ | exact Ow.shl0 (by omega) (by omega) (by omega) | exact ⟨by omega, by omega⟩ | exact ⟨by omega, by omega, by omega⟩ | omega | (subst_vars; omega)), (by first | assumption | exact Ow.divw64 (by omega) (by omega) | exact Ow.mul0 ⟨by omega, by omega⟩ | exact Ow.mul1 ⟨by omega, by omega⟩ | exact Ow.shl0 (by omega) (by omega) (by omega) | exact ⟨by omega, by omega⟩ | exact ⟨by omega, by omega, by omega⟩ | omega | (subst_vars; omega)), fun Hn_7 h42 => ?_⟩
        refine ⟨_, rfl, ?_⟩
        refine iteT ?_
        refine ⟨_, rfl, ?_⟩
        refine ⟨_, rfl, ?_⟩
        refine ⟨_, _, _, _, rfl, (h42 _ _ (Ow.at_new h_p_8 (h41 _ _ (Ow.at_mut (Ow.ne_sym (ne_of_none (h13 _ _ upd_same) h25)) h26)))), (by first | assumption | exact Ow.divw64 (by omega) (by omega) | exact Ow.mul0 ⟨by omega, by omega⟩ | exact Ow.mul1 ⟨by omega, by omega⟩ | exact Ow.shl0 (by omega) (by omega) (by omega) | exact ⟨by omega, by omega⟩ | exact ⟨by omega, by omega, by omega⟩ | omega | (subst_vars; omega)), (Ow.Sz.mono h20 (by decide : 2340 ≤ 4000)), (Ow.Sz.mono h22 (by decide : 2340 ≤ 4000)), (by first | assumption | exact Ow.divw64 (by omega) (by omega) | exact Ow.mul0 ⟨by omega, by omega⟩ | exact Ow.mul1 ⟨by omega, by omega⟩ | exact Ow.shl0 (by omega) (by omega) (by omega) | exact ⟨by omega, by omega⟩ | exact ⟨by omega, by omega, by omega⟩ | omega | (subst_vars; omega)), (by first | assumption | exact Ow.divw64 (by omega) (by omega) | exact Ow.mul0 ⟨by omega, by omega⟩ | exact Ow.mul1 ⟨by omega, by omega⟩ | exact Ow.shl0 (by omega) (by omega) (by omega) | exact ⟨by omega, by omega⟩ | exact ⟨by omega, by omega, by omega⟩ | omega | (subst_vars; omega)), fun Hn_8 h43 => ?_⟩
        exact kont _ (((((Ow.same_mut (Ow.same_frame ((Ow.same_mut (Ow.same_mut (Ow.same_mut ((Ow.same_new h_p).trans (Ow.same_new h_p_2)) h_p) h_p) h_p).trans h13) h23 h_p) h_p).trans h41).trans (Ow.same_new h_p_8)).trans h42).trans h43)
theorem ok_l_cell (T : Tx K mg) : FnOk P w K mg base CX0 1 T.d_l_cell.f T.d_l_cell.fd ["_law_script", "_law_k"] (sp_l_cell K) := by
  refine T.d_l_cell.F.ok sc_l_cell (fun vs H Q E h => ?_) (fun cdv A outer s H vs Q E hr h => ?_)
  · obtain ⟨script, k, ns, rfl, _⟩ := h
    rfl
  · obtain ⟨script, k, ns, rfl, c0, c1, c2, kont⟩ := h
    refine ⟨_, (pss_cons (ps_if (pt_cmpR op_lt (pv 1) (Ow.pe_nmi (pe_callB call_len_seq (by rfl) T.z_len (by decide +kernel) (pa_cons (pv 0) pa_nil))) (nomark _)) (pss_one (ps_ret (pe_ix ix_list (pv 0) (pv 1) (fun _ _ => rfl)))) pss_nil)
        (pss_cons (ps_set (i := 2) sc_l_cell.nd rfl (Or.inl rfl) (Ow.pe_nmi (pe_op op_add (pe_op Ow.op_mulN (pv 1) pe_int) pe_int)))
        (pss_cons (ps_if (pt_cmpR op_gt (Ow.pe_nmi (pe_callB call_len_seq (by rfl) T.z_len (by decide +kernel) (pa_cons (pv 0) pa_nil))) pe_int (nomark _)) (pss_one (ps_set (i := 2) sc_l_cell.nd rfl (Or.inl rfl) (pe_op Ow.op_modN (pe_op op_add (pe_op Ow.op_mulN (pe_ix ix_list (pv 0) (pe_op Ow.op_modN (pe_op Ow.op_mulN (pv 1) pe_int) (Ow.pe_nmi (pe_callB call_len_seq (by rfl) T.z_len (by decide +kernel) (pa_cons (pv 0) pa_nil)))) (fun _ _ => rfl)) pe_int) (pe_op Ow.op_mulN (pv 1) pe_int)) pe_int))) pss_nil)
        (pss_one (ps_ret (pe_op Ow.op_modN (pe_op Ow.op_mulN (pv 2) (pv 2)) pe_int)))))), ?_⟩
    refine ⟨_, rfl, ?_⟩
    refine ⟨_, rfl, ?_⟩
    refine ⟨_, _, rfl, .inl c0, ?_⟩
    refine ⟨_, rfl, fun len h_len => ?_⟩
    rw [List.length_map] at h_len
    refine ⟨_, _, rfl, rfl, ?_⟩
    refine ⟨_, rfl, ?_⟩
    refine Ow.ifd (fun h1 => ?_) (fun h1 => ?_)
    · refine ⟨_, rfl, ?_⟩
      refine ⟨_, rfl, ?_⟩
      refine Ow.ixn c0 (by first | assumption | exact Ow.divw64 (by omega) (by omega) | exact Ow.mul0 ⟨by omega, by omega⟩ | exact Ow.mul1 ⟨by omega, by omega⟩ | exact Ow.shl0 (by omega) (by omega) (by omega) | exact ⟨by omega, by omega⟩ | exact ⟨by omega, by omega, by omega⟩ | omega | (subst_vars; omega)) (by first | assumption | exact Ow.divw64 (by omega) (by omega) | exact Ow.mul0 ⟨by omega, by omega⟩ | exact Ow.mul1 ⟨by omega, by omega⟩ | exact Ow.shl0 (by omega) (by omega) (by omega) | exact ⟨by omega, by omega⟩ | exact ⟨by omega, by omega, by omega⟩ | omega | (subst_vars; omega)) (fun it h_it => ?_)
      exact kont it
    · refine ⟨_, rfl, ?_⟩
      refine ⟨_, _, rfl, rfl, (by first | assumption | exact Ow.divw64 (by omega) (by omega) | exact Ow.mul0 ⟨by omega, by omega⟩ | exact Ow.mul1 ⟨by omega, by omega⟩ | exact Ow.shl0 (by omega) (by omega) (by omega) | exact ⟨by omega, by omega⟩ | exact ⟨by omega, by omega, by omega⟩ | omega | (subst_vars; omega)), fun m h_m => ?_⟩
      refine ⟨_, _, rfl, rfl, ?_⟩
      refine ⟨_, rfl, fun l_number_here h_l_number_here => ?_⟩
      refine ⟨_, rfl, ?_⟩
      refine ⟨_, _, rfl, .inl c0, ?_⟩
      refine ⟨_, rfl, fun len_2 h_len_2 => ?_⟩
      rw [List.length_map] at h_len_2
      refine ⟨_, _, rfl, rfl, ?_⟩
      refine ⟨_, rfl, ?_⟩
      refine Ow.ifd (fun h2 => ?_) (fun h2 => ?_)
      · refine ⟨_, rfl, ?_⟩
        refine ⟨_, rfl, ?_⟩
        refine ⟨_, _, rfl, rfl, (by first | assumption | exact Ow.divw64 (by omega) (by omega) | exact Ow.mul0 ⟨by omega, by omega⟩ | exact Ow.mul1 ⟨by omega, by omega⟩ | exact Ow.shl0 (by omega) (by omega) (by omega) | exact ⟨by omega, by omega⟩ | exact ⟨by omega, by omega, by omega⟩ | omega | (subst_vars; omega)), fun m_2 h_m_2 => ?_⟩
        refine ⟨_, rfl, ?_⟩
        refine ⟨_, _, rfl, .inl c0, ?_⟩
        refine ⟨_, rfl, fun len_3 h_len_3 => ?_⟩
        rw [List.length_map] at h_len_3
        refine ⟨_, _, rfl, rfl, (by first | assumption | exact Ow.divw64 (by omega) (by omega) | exact Ow.mul0 ⟨by omega, by omega⟩ | exact Ow.mul1 ⟨by omega, by omega⟩ | exact Ow.shl0 (by omega) (by omega) (by omega) | exact ⟨by omega, by omega⟩ | exact ⟨by omega, by omega, by omega⟩ | omega | (subst_vars; omega)), fun r h_r h0_r h1_r => ?_⟩
        refine Ow.ixn c0 (by first | assumption | exact Ow.divw64 (by omega) (by omega) | exact Ow.mul0 ⟨by omega, by omega⟩ | exact Ow.mul1 ⟨by omega, by omega⟩ | exact Ow.shl0 (by omega) (by omega) (by omega) | exact ⟨by omega, by omega⟩ | exact ⟨by omega, by omega, by omega⟩ | omega | (subst_vars; omega)) (by first | assumption | exact Ow.divw64 (by omega) (by omega) | exact Ow.mul0 ⟨by omega, by omega⟩ | exact Ow.mul1 ⟨by omega, by omega⟩ | exact Ow.shl0 (by omega) (by omega) (by omega) | exact ⟨by omega, by omega⟩ | exact ⟨by omega, by omega, by omega⟩ | omega | (subst_vars; omega)) (fun it_2 h_it_2 => ?_)
        refine ⟨_, _, rfl, rfl, (by first | assumption | exact Ow.divw64 (by omega) (by omega) | exact Ow.mul0 ⟨by omega, by omega⟩ | exact Ow.mul1 ⟨by omega, by omega⟩ | exact Ow.shl0 (by omega) (by omega) (by omega) | exact ⟨by omega, by omega⟩ | exact ⟨by omega, by omega, by omega⟩ | omega | (subst_vars; omega)), fun m_3 h_m_3 => ?_⟩
        refine ⟨_, rfl, ?_⟩
        refine ⟨_, _, rfl, rfl, (by first | assumption | exact Ow.divw64 (by omega) (by omega) | exact Ow.mul0 ⟨by omega, by omega⟩ | exact Ow.mul1 ⟨by omega, by omega⟩ | exact Ow.shl0 (by omega) (by omega) (by omega) | exact ⟨by omega, by omega⟩ | exact ⟨by omega, by omega, by omega⟩ | omega | (subst_vars; omega)), fun m_4 h_m_4 => ?_⟩
        refine ⟨_, _, rfl, rfl, ?_⟩
        refine ⟨_, _, rfl, rfl, (by first | assumption | exact Ow.divw64 (by omega) (by omega) | exact Ow.mul0 ⟨by omega, by omega⟩ | exact Ow.mul1 ⟨by omega, by omega⟩ | exact Ow.shl0 (by omega) (by omega) (by omega) | exact ⟨by omega, by omega⟩ | exact ⟨by omega, by omega, by omega⟩ | omega | (subst_vars; omega)), fun r_2 h_r_2 h0_r_2 h1_r_2 => ?_⟩
        refine ⟨_, rfl, ?_⟩
        refine ⟨_, rfl, ?_⟩
        refine ⟨_, _, rfl, rfl, (.inr (Ow.mulx (Ow.Sz.md h0_r_2 h1_r_2 (Ow.Sz.lit (n := 31) (i := 2147483647) (by decide))) (Ow.Sz.md h0_r_2 h1_r_2 (Ow.Sz.lit (n := 31) (i := 2147483647) (by decide))) (by decide))), fun m_5 h_m_5 => ?_⟩
        have z_m_5 : Ow.Sz 62 m_5 := by rw [h_m_5]; exact (Ow.Sz.mul (Ow.Sz.md h0_r_2 h1_r_2 (Ow.Sz.lit (n := 31) (i := 2147483647) (by decide))) (Ow.Sz.md h0_r_2 h1_r_2 (Ow.Sz.lit (n := 31) (i := 2147483647) (by decide))))
        refine ⟨_, _, rfl, rfl, (by first | assumption | exact Ow.divw64 (by omega) (by omega) | exact Ow.mul0 ⟨by omega, by omega⟩ | exact Ow.mul1 ⟨by omega, by omega⟩ | exact Ow.shl0 (by omega) (by omega) (by omega) | exact ⟨by omega, by omega⟩ | exact ⟨by omega, by omega, by omega⟩ | omega | (subst_vars; omega)), fun r_3 h_r_3 h0_r_3 h1_r_3 => ?_⟩
        exact kont r_3
      · refine ⟨_, rfl, ?_⟩
        refine ⟨_, rfl, ?_⟩
        refine ⟨_, _, rfl, rfl, (by first | assumption | exact Ow.divw64 (by omega) (by omega) | exact Ow.mul0 ⟨by omega, by omega⟩ | exact Ow.mul1 ⟨by omega, by omega⟩ | exact Ow.shl0 (by omega) (by omega) (by omega) | exact ⟨by omega, by omega⟩ | exact ⟨by omega, by omega, by omega⟩ | omega | (subst_vars; omega)), fun m_6 h_m_6 => ?_⟩
        refine ⟨_, _, rfl, rfl, (by first | assumption | exact Ow.divw64 (by omega) (by omega) | exact Ow.mul0 ⟨by omega, by omega⟩ | exact Ow.mul1 ⟨by omega, by omega⟩ | exact Ow.shl0 (by omega) (by omega) (by omega) | exact ⟨by omega, by omega⟩ | exact ⟨by omega, by omega, by omega⟩ | omega | (subst_vars; omega)), fun r_4 h_r_4 h0_r_4 h1_r_4 => ?_⟩
        exact kont r_4
theorem ok_law (T : Tx K mg) : FnOk P w K mg base CX0 7 T.d_law.f T.d_law.fd ["_law_script"] (sp_law K) := by
  refine T.d_law.F.ok sc_law (fun vs H Q E h => ?_) (fun cdv A outer s H vs Q E hr h => ?_)
  · obtain ⟨script, ns, rfl, _⟩ := h
    rfl
  · obtain ⟨script, ns, rfl, c0, c1, kont⟩ := h
    refine ⟨_, (pss_cons (ps_for PassesOwn.never rfl (pi_range1 (by rfl) T.z_range (pa_cons (Ow.pe_nmi (pe_callB (call_max2 rfl) (by rfl) T.z_max (by decide +kernel) (pa_cons pe_int (pa_cons (Ow.pe_nmi (pe_callB (call_min2 rfl) (by rfl) T.z_min (by decide +kernel) (pa_cons pe_int (pa_cons (Ow.pe_nmi (pe_callB call_len_seq (by rfl) T.z_len (by decide +kernel) (pa_cons (pv 0) pa_nil))) pa_nil)))) pa_nil)))) pa_nil)) (pg_name (i := 1) sc_law.nd rfl (Or.inl rfl)) (pss_one (ps_if (pt_not (pt_val (pe_call (Ow.ok_l_one T) (hr.mono (by decide : 6 ≤ 6)) (by rfl) T.d_l_one.m T.d_l_one.F.kp T.d_l_one.b .nil pass0 (pa_cons (pe_call (Ow.ok_l_cell T) (hr.mono (by decide : 1 ≤ 6)) (by rfl) T.d_l_cell.m T.d_l_cell.F.kp T.d_l_cell.b .nil pass0 (pa_cons (pv 0) (pa_cons (pv 1) pa_nil))) (pa_cons (pe_ix ix_list (pe_lst (pa_cons pe_int (pa_cons pe_int pa_nil))) (pe_callTy Ow.call_intb (by rfl) T.z_int (by decide +kernel) (pa_cons (pe_cmpR op_eq (pv 1) pe_int (nomark _)) pa_nil)) (fun _ _ => rfl)) pa_nil))))) (pss_one (ps_ret pe_bl)) pss_nil)))
        (pss_one (ps_ret pe_bl))), ?_⟩
    refine ⟨_, rfl, ?_⟩
    refine ⟨_, _, rfl, .inl c0, ?_⟩
    refine ⟨_, rfl, fun len h_len => ?_⟩
    rw [List.length_map] at h_len
    refine ⟨_, _, rfl, ?_⟩
    refine ⟨_, rfl, fun m h_m => ?_⟩
    have hm_m := Ow.min_ite h_m
    refine ⟨_, _, rfl, ?_⟩
    refine ⟨_, rfl, fun m_2 h_m_2 => ?_⟩
    have hm_m_2 := Ow.max_ite h_m_2
    refine ⟨_, rfl, (by first | assumption | exact Ow.divw64 (by omega) (by omega) | exact Ow.mul0 ⟨by omega, by omega⟩ | exact Ow.mul1 ⟨by omega, by omega⟩ | exact Ow.shl0 (by omega) (by omega) (by omega) | exact ⟨by omega, by omega⟩ | exact ⟨by omega, by omega, by omega⟩ | omega | (subst_vars; omega)), (by first | assumption | exact Ow.divw64 (by omega) (by omega) | exact Ow.mul0 ⟨by omega, by omega⟩ | exact Ow.mul1 ⟨by omega, by omega⟩ | exact Ow.shl0 (by omega) (by omega) (by omega) | exact ⟨by omega, by omega⟩ | exact ⟨by omega, by omega, by omega⟩ | omega | (subst_vars; omega)), ?_⟩
    refine for_range (lo := 0) (fun i σ2 H2 => ∃ (v_1 : Option V), σ2 = [some (.ref script), v_1] ∧ Same _ H2) ⟨_, rfl, Same.refl _⟩ ?_ ?_
    · rintro i _ Hn h2 ⟨_, rfl, h1⟩
      refine Ow.gturn (fun l_k h_l_k => ?_)
      refine ⟨_, rfl, ?_⟩
      refine ⟨_, rfl, ?_⟩
      refine ⟨_, _, _, rfl, (Ow.seq h1 c0), (by first | assumption | exact Ow.divw64 (by omega) (by omega) | exact Ow.mul0 ⟨by omega, by omega⟩ | exact Ow.mul1 ⟨by omega, by omega⟩ | exact Ow.shl0 (by omega) (by omega) (by omega) | exact ⟨by omega, by omega⟩ | exact ⟨by omega, by omega, by omega⟩ | omega | (subst_vars; omega)), (by first | assumption | exact Ow.divw64 (by omega) (by omega) | exact Ow.mul0 ⟨by omega, by omega⟩ | exact Ow.mul1 ⟨by omega, by omega⟩ | exact Ow.shl0 (by omega) (by omega) (by omega) | exact ⟨by omega, by omega⟩ | exact ⟨by omega, by omega, by omega⟩ | omega | (subst_vars; omega)), fun t => ?_⟩
      refine ⟨by show 2 ≤ sizeLine; decide, fun p h_p => ?_⟩
      refine ⟨_, rfl, ?_⟩
      refine ⟨rfl, ?_⟩
      refine ⟨_, rfl, fun n h_n => ?_⟩
      simp only [decide_eq_true_eq, decide_eq_false_iff_not, V.int.injEq, V.str.injEq] at h_n
      refine Ow.ixi2 (SqL.of upd_same) (by first | assumption | exact Ow.divw64 (by omega) (by omega) | exact Ow.mul0 ⟨by omega, by omega⟩ | exact Ow.mul1 ⟨by omega, by omega⟩ | exact Ow.shl0 (by omega) (by omega) (by omega) | exact ⟨by omega, by omega⟩ | exact ⟨by omega, by omega, by omega⟩ | omega | (subst_vars; omega)) (fun it h_it => ?_)
      have z_it : Ow.Sz 12 it := by rcases h_it with ⟨_, rfl⟩ | ⟨_, rfl⟩ <;> first | exact (Ow.Sz.mono (Ow.Sz.lit (n := 11) (i := 1101) (by decide)) (by decide : 11 ≤ 12)) | exact (Ow.Sz.lit (n := 12) (i := 2291) (by decide))
      refine ⟨_, _, rfl, (by first | assumption | exact Ow.divw64 (by omega) (by omega) | exact Ow.mul0 ⟨by omega, by omega⟩ | exact Ow.mul1 ⟨by omega, by omega⟩ | exact Ow.shl0 (by omega) (by omega) (by omega) | exact ⟨by omega, by omega⟩ | exact ⟨by omega, by omega, by omega⟩ | omega | (subst_vars; omega)), (by first | assumption | exact Ow.divw64 (by omega) (by omega) | exact Ow.mul0 ⟨by omega, by omega⟩ | exact Ow.mul1 ⟨by omega, by omega⟩ | exact Ow.shl0 (by omega) (by omega) (by omega) | exact ⟨by omega, by omega⟩ | exact ⟨by omega, by omega, by omega⟩ | omega | (subst_vars; omega)), fun Hn_2 h3 => ?_⟩
      refine ⟨_, rfl, ?_⟩
      refine iteF ?_
      exact ⟨_, rfl, ((h1.trans (Ow.same_new h_p)).trans h3)⟩
    · rintro _ Hn_3 ⟨_, rfl, h4⟩
      exact kont _ h4
end
def tx_mk {K : PySem.W.Frag} {h : Heap} {mg : Str → Option Value} (X : K.In h) (G : h.Ns mainGlobals mg) {f_l_begun : Addr} {od_l_begun an_l_begun : Option Addr} {oc_l_begun kV_l_begun dc_l_begun pm_l_begun cd_l_begun ct_l_begun : Value} {sl_l_begun : Array (Option Value)} {f_l_draw : Addr} {od_l_draw an_l_draw : Option Addr} {oc_l_draw kV_l_draw dc_l_draw pm_l_draw cd_l_draw ct_l_draw : Value} {sl_l_draw : Array (Option Value)} {f_l_number : Addr} {od_l_number an_l_number : Option Addr} {oc_l_number kV_l_number dc_l_number pm_l_number cd_l_number ct_l_number : Value} {sl_l_number : Array (Option Value)} {f_divisor_of : Addr} {od_divisor_of an_divisor_of : Option Addr} {oc_divisor_of kV_divisor_of dc_divisor_of pm_divisor_of cd_divisor_of ct_divisor_of : Value} {sl_divisor_of : Array (Option Value)} {f_lowest : Addr} {od_lowest an_lowest : Option Addr} {oc_lowest kV_lowest dc_lowest pm_lowest cd_lowest ct_lowest : Value} {sl_lowest : Array (Option Value)} {f_by_twos : Addr} {od_by_twos an_by_twos : Option Addr} {oc_by_twos kV_by_twos dc_by_twos pm_by_twos cd_by_twos ct_by_twos : Value} {sl_by_twos : Array (Option Value)} {f_l_divisor : Addr} {od_l_divisor an_l_divisor : Option Addr} {oc_l_divisor kV_l_divisor dc_l_divisor pm_l_divisor cd_l_divisor ct_l_divisor : Value} {sl_l_divisor : Array (Option Value)} {f_l_fraction : Addr} {od_l_fraction an_l_fraction : Option Addr} {oc_l_fraction kV_l_fraction dc_l_fraction pm_l_fraction cd_l_fraction ct_l_fraction : Value} {sl_l_fraction : Array (Option Value)} {f_l_power : Addr} {od_l_power an_l_power : Option Addr} {oc_l_power kV_l_power dc_l_power pm_l_power cd_l_power ct_l_power : Value} {sl_l_power : Array (Option Value)} {f_raised : Addr} {od_raised an_raised : Option Addr} {oc_raised kV_raised dc_raised pm_raised cd_raised ct_raised : Value} {sl_raised : Array (Option Value)} {f_l_whole : Addr} {od_l_whole an_l_whole : Option Addr} {oc_l_whole kV_l_whole dc_l_whole pm_l_whole cd_l_whole ct_l_whole : Value} {sl_l_whole : Array (Option Value)} {f_l_is_fraction : Addr} {od_l_is_fraction an_l_is_fraction : Option Addr} {oc_l_is_fraction kV_l_is_fraction dc_l_is_fraction pm_l_is_fraction cd_l_is_fraction ct_l_is_fraction : Value} {sl_l_is_fraction : Array (Option Value)} {f_l_raised : Addr} {od_l_raised an_l_raised : Option Addr} {oc_l_raised kV_l_raised dc_l_raised pm_l_raised cd_l_raised ct_l_raised : Value} {sl_l_raised : Array (Option Value)} {f_l_one : Addr} {od_l_one an_l_one : Option Addr} {oc_l_one kV_l_one dc_l_one pm_l_one cd_l_one ct_l_one : Value} {sl_l_one : Array (Option Value)} {f_l_cell : Addr} {od_l_cell an_l_cell : Option Addr} {oc_l_cell kV_l_cell dc_l_cell pm_l_cell cd_l_cell ct_l_cell : Value} {sl_l_cell : Array (Option Value)} {f_law : Addr} {od_law an_law : Option Addr} {oc_law kV_law dc_law pm_law cd_law ct_law : Value} {sl_law : Array (Option Value)} 
    (a_l_begun : PySem.W.nsIn K mainGlobals "_law_begun" = some (some (.ref f_l_begun)))
    (l_l_begun : K.lookup f_l_begun = some ⟨oc_l_begun, od_l_begun, .func (PySem.W.fnOf "_law_begun" "_law_begun" (defArgs s_l_begun) (defBody s_l_begun) (defScope s_l_begun) .none kV_l_begun dc_l_begun pm_l_begun an_l_begun cd_l_begun ct_l_begun), sl_l_begun⟩)
    (c_l_begun : PySem.W.codeIn K cd_l_begun "_law_begun" = true) (k_l_begun : PySem.W.keepIn K (.ref f_l_begun) = true)
    (a_l_draw : PySem.W.nsIn K mainGlobals "_law_draw" = some (some (.ref f_l_draw)))
    (l_l_draw : K.lookup f_l_draw = some ⟨oc_l_draw, od_l_draw, .func (PySem.W.fnOf "_law_draw" "_law_draw" (defArgs s_l_draw) (defBody s_l_draw) (defScope s_l_draw) .none kV_l_draw dc_l_draw pm_l_draw an_l_draw cd_l_draw ct_l_draw), sl_l_draw⟩)
    (c_l_draw : PySem.W.codeIn K cd_l_draw "_law_draw" = true) (k_l_draw : PySem.W.keepIn K (.ref f_l_draw) = true)
    (a_l_number : PySem.W.nsIn K mainGlobals "_law_number" = some (some (.ref f_l_number)))
    (l_l_number : K.lookup f_l_number = some ⟨oc_l_number, od_l_number, .func (PySem.W.fnOf "_law_number" "_law_number" (defArgs s_l_number) (defBody s_l_number) (defScope s_l_number) .none kV_l_number dc_l_number pm_l_number an_l_number cd_l_number ct_l_number), sl_l_number⟩)
    (c_l_number : PySem.W.codeIn K cd_l_number "_law_number" = true) (k_l_number : PySem.W.keepIn K (.ref f_l_number) = true)
    (a_divisor_of : PySem.W.nsIn K mainGlobals "divisor_of" = some (some (.ref f_divisor_of)))
    (l_divisor_of : K.lookup f_divisor_of = some ⟨oc_divisor_of, od_divisor_of, .func (PySem.W.fnOf "divisor_of" "divisor_of" (defArgs s_divisor_of) (defBody s_divisor_of) (defScope s_divisor_of) .none kV_divisor_of dc_divisor_of pm_divisor_of an_divisor_of cd_divisor_of ct_divisor_of), sl_divisor_of⟩)
    (c_divisor_of : PySem.W.codeIn K cd_divisor_of "divisor_of" = true) (k_divisor_of : PySem.W.keepIn K (.ref f_divisor_of) = true)
    (a_lowest : PySem.W.nsIn K mainGlobals "lowest" = some (some (.ref f_lowest)))
    (l_lowest : K.lookup f_lowest = some ⟨oc_lowest, od_lowest, .func (PySem.W.fnOf "lowest" "lowest" (defArgs s_lowest) (defBody s_lowest) (defScope s_lowest) .none kV_lowest dc_lowest pm_lowest an_lowest cd_lowest ct_lowest), sl_lowest⟩)
    (c_lowest : PySem.W.codeIn K cd_lowest "lowest" = true) (k_lowest : PySem.W.keepIn K (.ref f_lowest) = true)
    (a_by_twos : PySem.W.nsIn K mainGlobals "by_twos" = some (some (.ref f_by_twos)))
    (l_by_twos : K.lookup f_by_twos = some ⟨oc_by_twos, od_by_twos, .func (PySem.W.fnOf "by_twos" "by_twos" (defArgs s_by_twos) (defBody s_by_twos) (defScope s_by_twos) .none kV_by_twos dc_by_twos pm_by_twos an_by_twos cd_by_twos ct_by_twos), sl_by_twos⟩)
    (c_by_twos : PySem.W.codeIn K cd_by_twos "by_twos" = true) (k_by_twos : PySem.W.keepIn K (.ref f_by_twos) = true)
    (a_l_divisor : PySem.W.nsIn K mainGlobals "_law_divisor" = some (some (.ref f_l_divisor)))
    (l_l_divisor : K.lookup f_l_divisor = some ⟨oc_l_divisor, od_l_divisor, .func (PySem.W.fnOf "_law_divisor" "_law_divisor" (defArgs s_l_divisor) (defBody s_l_divisor) (defScope s_l_divisor) .none kV_l_divisor dc_l_divisor pm_l_divisor an_l_divisor cd_l_divisor ct_l_divisor), sl_l_divisor⟩)
    (c_l_divisor : PySem.W.codeIn K cd_l_divisor "_law_divisor" = true) (k_l_divisor : PySem.W.keepIn K (.ref f_l_divisor) = true)
    (a_l_fraction : PySem.W.nsIn K mainGlobals "_law_fraction" = some (some (.ref f_l_fraction)))
    (l_l_fraction : K.lookup f_l_fraction = some ⟨oc_l_fraction, od_l_fraction, .func (PySem.W.fnOf "_law_fraction" "_law_fraction" (defArgs s_l_fraction) (defBody s_l_fraction) (defScope s_l_fraction) .none kV_l_fraction dc_l_fraction pm_l_fraction an_l_fraction cd_l_fraction ct_l_fraction), sl_l_fraction⟩)
    (c_l_fraction : PySem.W.codeIn K cd_l_fraction "_law_fraction" = true) (k_l_fraction : PySem.W.keepIn K (.ref f_l_fraction) = true)
    (a_l_power : PySem.W.nsIn K mainGlobals "_law_power" = some (some (.ref f_l_power)))
    (l_l_power : K.lookup f_l_power = some ⟨oc_l_power, od_l_power, .func (PySem.W.fnOf "_law_power" "_law_power" (defArgs s_l_power) (defBody s_l_power) (defScope s_l_power) .none kV_l_power dc_l_power pm_l_power an_l_power cd_l_power ct_l_power), sl_l_power⟩)
    (c_l_power : PySem.W.codeIn K cd_l_power "_law_power" = true) (k_l_power : PySem.W.keepIn K (.ref f_l_power) = true)
    (a_raised : PySem.W.nsIn K mainGlobals "raised" = some (some (.ref f_raised)))
    (l_raised : K.lookup f_raised = some ⟨oc_raised, od_raised, .func (PySem.W.fnOf "raised" "raised" (defArgs s_raised) (defBody s_raised) (defScope s_raised) .none kV_raised dc_raised pm_raised an_raised cd_raised ct_raised), sl_raised⟩)
    (c_raised : PySem.W.codeIn K cd_raised "raised" = true) (k_raised : PySem.W.keepIn K (.ref f_raised) = true)
    (a_l_whole : PySem.W.nsIn K mainGlobals "_law_whole" = some (some (.ref f_l_whole)))
    (l_l_whole : K.lookup f_l_whole = some ⟨oc_l_whole, od_l_whole, .func (PySem.W.fnOf "_law_whole" "_law_whole" (defArgs s_l_whole) (defBody s_l_whole) (defScope s_l_whole) .none kV_l_whole dc_l_whole pm_l_whole an_l_whole cd_l_whole ct_l_whole), sl_l_whole⟩)
    (c_l_whole : PySem.W.codeIn K cd_l_whole "_law_whole" = true) (k_l_whole : PySem.W.keepIn K (.ref f_l_whole) = true)
    (a_l_is_fraction : PySem.W.nsIn K mainGlobals "_law_is_fraction" = some (some (.ref f_l_is_fraction)))
    (l_l_is_fraction : K.lookup f_l_is_fraction = some ⟨oc_l_is_fraction, od_l_is_fraction, .func (PySem.W.fnOf "_law_is_fraction" "_law_is_fraction" (defArgs s_l_is_fraction) (defBody s_l_is_fraction) (defScope s_l_is_fraction) .none kV_l_is_fraction dc_l_is_fraction pm_l_is_fraction an_l_is_fraction cd_l_is_fraction ct_l_is_fraction), sl_l_is_fraction⟩)
    (c_l_is_fraction : PySem.W.codeIn K cd_l_is_fraction "_law_is_fraction" = true) (k_l_is_fraction : PySem.W.keepIn K (.ref f_l_is_fraction) = true)
    (a_l_raised : PySem.W.nsIn K mainGlobals "_law_raised" = some (some (.ref f_l_raised)))
    (l_l_raised : K.lookup f_l_raised = some ⟨oc_l_raised, od_l_raised, .func (PySem.W.fnOf "_law_raised" "_law_raised" (defArgs s_l_raised) (defBody s_l_raised) (defScope s_l_raised) .none kV_l_raised dc_l_raised pm_l_raised an_l_raised cd_l_raised ct_l_raised), sl_l_raised⟩)
    (c_l_raised : PySem.W.codeIn K cd_l_raised "_law_raised" = true) (k_l_raised : PySem.W.keepIn K (.ref f_l_raised) = true)
    (a_l_one : PySem.W.nsIn K mainGlobals "_law_one" = some (some (.ref f_l_one)))
    (l_l_one : K.lookup f_l_one = some ⟨oc_l_one, od_l_one, .func (PySem.W.fnOf "_law_one" "_law_one" (defArgs s_l_one) (defBody s_l_one) (defScope s_l_one) .none kV_l_one dc_l_one pm_l_one an_l_one cd_l_one ct_l_one), sl_l_one⟩)
    (c_l_one : PySem.W.codeIn K cd_l_one "_law_one" = true) (k_l_one : PySem.W.keepIn K (.ref f_l_one) = true)
    (a_l_cell : PySem.W.nsIn K mainGlobals "_law_cell" = some (some (.ref f_l_cell)))
    (l_l_cell : K.lookup f_l_cell = some ⟨oc_l_cell, od_l_cell, .func (PySem.W.fnOf "_law_cell" "_law_cell" (defArgs s_l_cell) (defBody s_l_cell) (defScope s_l_cell) .none kV_l_cell dc_l_cell pm_l_cell an_l_cell cd_l_cell ct_l_cell), sl_l_cell⟩)
    (c_l_cell : PySem.W.codeIn K cd_l_cell "_law_cell" = true) (k_l_cell : PySem.W.keepIn K (.ref f_l_cell) = true)
    (a_law : PySem.W.nsIn K mainGlobals "law" = some (some (.ref f_law)))
    (l_law : K.lookup f_law = some ⟨oc_law, od_law, .func (PySem.W.fnOf "law" "law" (defArgs s_law) (defBody s_law) (defScope s_law) .none kV_law dc_law pm_law an_law cd_law ct_law), sl_law⟩)
    (c_law : PySem.W.codeIn K cd_law "law" = true) (k_law : PySem.W.keepIn K (.ref f_law) = true)
    (z_abs : PySem.W.nsIn K mainGlobals "abs" = some none)
    (z_isinstance : PySem.W.nsIn K mainGlobals "isinstance" = some none)
    (z_bool : PySem.W.nsIn K mainGlobals "bool" = some none)
    (z_int : PySem.W.nsIn K mainGlobals "int" = some none)
    (z_len : PySem.W.nsIn K mainGlobals "len" = some none)
    (z_tuple : PySem.W.nsIn K mainGlobals "tuple" = some none)
    (z_range : PySem.W.nsIn K mainGlobals "range" = some none)
    (z_max : PySem.W.nsIn K mainGlobals "max" = some none)
    (z_min : PySem.W.nsIn K mainGlobals "min" = some none) : Tx K mg where
  d_l_begun := ⟨f_l_begun, _, fun_mk (st := s_l_begun) l_l_begun c_l_begun k_l_begun, (fun_mk (st := s_l_begun) l_l_begun c_l_begun k_l_begun).binds fun _ _ _ _ _ _ us hl => match us, hl with | [_], _ => rfl, PySem.W.mg_of X G a_l_begun⟩
  d_l_draw := ⟨f_l_draw, _, fun_mk (st := s_l_draw) l_l_draw c_l_draw k_l_draw, (fun_mk (st := s_l_draw) l_l_draw c_l_draw k_l_draw).binds fun _ _ _ _ _ _ us hl => match us, hl with | [_, _], _ => rfl, PySem.W.mg_of X G a_l_draw⟩
  d_l_number := ⟨f_l_number, _, fun_mk (st := s_l_number) l_l_number c_l_number k_l_number, (fun_mk (st := s_l_number) l_l_number c_l_number k_l_number).binds fun _ _ _ _ _ _ us hl => match us, hl with | [_, _], _ => rfl, PySem.W.mg_of X G a_l_number⟩
  d_divisor_of := ⟨f_divisor_of, _, fun_mk (st := s_divisor_of) l_divisor_of c_divisor_of k_divisor_of, (fun_mk (st := s_divisor_of) l_divisor_of c_divisor_of k_divisor_of).binds fun _ _ _ _ _ _ us hl => match us, hl with | [_, _], _ => rfl, PySem.W.mg_of X G a_divisor_of⟩
  d_lowest := ⟨f_lowest, _, fun_mk (st := s_lowest) l_lowest c_lowest k_lowest, (fun_mk (st := s_lowest) l_lowest c_lowest k_lowest).binds fun _ _ _ _ _ _ us hl => match us, hl with | [_, _], _ => rfl, PySem.W.mg_of X G a_lowest⟩
  d_by_twos := ⟨f_by_twos, _, fun_mk (st := s_by_twos) l_by_twos c_by_twos k_by_twos, (fun_mk (st := s_by_twos) l_by_twos c_by_twos k_by_twos).binds fun _ _ _ _ _ _ us hl => match us, hl with | [_, _], _ => rfl, PySem.W.mg_of X G a_by_twos⟩
  d_l_divisor := ⟨f_l_divisor, _, fun_mk (st := s_l_divisor) l_l_divisor c_l_divisor k_l_divisor, (fun_mk (st := s_l_divisor) l_l_divisor c_l_divisor k_l_divisor).binds fun _ _ _ _ _ _ us hl => match us, hl with | [_, _], _ => rfl, PySem.W.mg_of X G a_l_divisor⟩
  d_l_fraction := ⟨f_l_fraction, _, fun_mk (st := s_l_fraction) l_l_fraction c_l_fraction k_l_fraction, (fun_mk (st := s_l_fraction) l_l_fraction c_l_fraction k_l_fraction).binds fun _ _ _ _ _ _ us hl => match us, hl with | [_, _], _ => rfl, PySem.W.mg_of X G a_l_fraction⟩
  d_l_power := ⟨f_l_power, _, fun_mk (st := s_l_power) l_l_power c_l_power k_l_power, (fun_mk (st := s_l_power) l_l_power c_l_power k_l_power).binds fun _ _ _ _ _ _ us hl => match us, hl with | [_], _ => rfl, PySem.W.mg_of X G a_l_power⟩
  d_raised := ⟨f_raised, _, fun_mk (st := s_raised) l_raised c_raised k_raised, (fun_mk (st := s_raised) l_raised c_raised k_raised).binds fun _ _ _ _ _ _ us hl => match us, hl with | [_, _], _ => rfl, PySem.W.mg_of X G a_raised⟩
  d_l_whole := ⟨f_l_whole, _, fun_mk (st := s_l_whole) l_l_whole c_l_whole k_l_whole, (fun_mk (st := s_l_whole) l_l_whole c_l_whole k_l_whole).binds fun _ _ _ _ _ _ us hl => match us, hl with | [_], _ => rfl, PySem.W.mg_of X G a_l_whole⟩
  d_l_is_fraction := ⟨f_l_is_fraction, _, fun_mk (st := s_l_is_fraction) l_l_is_fraction c_l_is_fraction k_l_is_fraction, (fun_mk (st := s_l_is_fraction) l_l_is_fraction c_l_is_fraction k_l_is_fraction).binds fun _ _ _ _ _ _ us hl => match us, hl with | [_], _ => rfl, PySem.W.mg_of X G a_l_is_fraction⟩
  d_l_raised := ⟨f_l_raised, _, fun_mk (st := s_l_raised) l_l_raised c_l_raised k_l_raised, (fun_mk (st := s_l_raised) l_l_raised c_l_raised k_l_raised).binds fun _ _ _ _ _ _ us hl => match us, hl with | [_, _], _ => rfl, PySem.W.mg_of X G a_l_raised⟩
  d_l_one := ⟨f_l_one, _, fun_mk (st := s_l_one) l_l_one c_l_one k_l_one, (fun_mk (st := s_l_one) l_l_one c_l_one k_l_one).binds fun _ _ _ _ _ _ us hl => match us, hl with | [_, _], _ => rfl, PySem.W.mg_of X G a_l_one⟩
  d_l_cell := ⟨f_l_cell, _, fun_mk (st := s_l_cell) l_l_cell c_l_cell k_l_cell, (fun_mk (st := s_l_cell) l_l_cell c_l_cell k_l_cell).binds fun _ _ _ _ _ _ us hl => match us, hl with | [_, _], _ => rfl, PySem.W.mg_of X G a_l_cell⟩
  d_law := ⟨f_law, _, fun_mk (st := s_law) l_law c_law k_law, (fun_mk (st := s_law) l_law c_law k_law).binds fun _ _ _ _ _ _ us hl => match us, hl with | [_], _ => rfl, PySem.W.mg_of X G a_law⟩
  z_abs := PySem.W.mg_none_of X G z_abs
  z_isinstance := PySem.W.mg_none_of X G z_isinstance
  z_bool := PySem.W.mg_none_of X G z_bool
  z_int := PySem.W.mg_none_of X G z_int
  z_len := PySem.W.mg_none_of X G z_len
  z_tuple := PySem.W.mg_none_of X G z_tuple
  z_range := PySem.W.mg_none_of X G z_range
  z_max := PySem.W.mg_none_of X G z_max
  z_min := PySem.W.mg_none_of X G z_min
theorem all_mk {l : PySem.W.OpenLaw} {w : World} {K : PySem.W.Frag} {h : Heap} {mg : Str → Option Value} {fa : Addr} (hfa : mg "law" = some (.ref fa)) (T : Tx K mg) :
    ∃ fd : FuncData, (∀ (s : Shared) (v : Value), BindsTo s fd ⟨[v], []⟩ [("_law_script", v)]) ∧ ∀ base : Heap, K.In base → base.Ns mainGlobals mg → FnOk l.prog w K mg base CX0 7 fa fd ["_law_script"] (sp_law K) := by
  have e := hfa.symm.trans T.d_law.m
  cases e
  refine ⟨T.d_law.fd, fun s v => ?_, fun base _ _ => ok_law T⟩
  obtain ⟨oc, od, kV, doc, pm, an, cdv, ct, osl, e, _, _⟩ := T.d_law.F.ex
  rw [e]
  exact .of_eq rfl
theorem walk {l : PySem.W.OpenLaw} {q : Program} {loose : List Str} {XP : (Str → Option Value) → Heap → Prop} {YP : World → Heap → Prop} {d : DefRec} {K : Params → PySem.W.Frag} (hn : l.most = some 63) (hdf : d.params.defaults = [])
    (hY : ∀ (w : World) (h : Heap), YP w h → (K w.params).In h)
    (F : ∀ (w : World) (mg : Str → Option Value) (fa : Addr) (h : Heap), (K w.params).In h → h.Ns mainGlobals mg → mg d.name = some (.ref fa) →
      ∃ fd : FuncData, (∀ (s : Shared) (u : Value), BindsTo s fd ⟨[u], []⟩ [("_law_script", u)]) ∧ ∀ base : Heap, (K w.params).In base → base.Ns mainGlobals mg → FnOk l.prog w (K w.params) mg base CX0 7 fa fd ["_law_script"] (sp_law (K w.params))) :
    PySem.W.WalkO q loose XP YP l.row.toRowW d [] (fun f vs => PySem.call f vs) :=
  L2.walk_of (n := 63) (k := 7) (x := "_law_script") (CX := fun _ => CX0) (sp := fun w => sp_law (K w.params)) hn (by decide) hdf ⟨rfl, by decide, by decide⟩ hY F (fun _ _ a ns hl _ hS => ⟨a, ns, rfl, hS, hl, fun _ _ => rfl⟩) fun _ _ _ _ _ z => z
end Ow
open PySem PySem.W PyProof.Rows
set_option maxRecDepth 100000 in
set_option maxHeartbeats 0 in
theorem PySem.Challenge.cw_overwise_k13_twos_holds : PySem.Challenge.rw_overwise_k13_twos.Holds := by
  w_on; o_law; k_head; (case hw => w_witness2)
  k_fill
  refine _root_.Ow.walk (l := PySem.Challenge.rw_overwise_k13_twos) rfl rfl (fun w h Y => PySem.W.kIn_of Y) ?F
  case F =>
    intro w mg fa h KX G hmg
    refine' _root_.Ow.all_mk (h := h) hmg (_root_.Ow.tx_mk KX G ?a_l_begun ?l_l_begun ?c_l_begun ?k_l_begun ?a_l_draw ?l_l_draw ?c_l_draw ?k_l_draw ?a_l_number ?l_l_number ?c_l_number ?k_l_number ?a_divisor_of ?l_divisor_of ?c_divisor_of ?k_divisor_of ?a_lowest ?l_lowest ?c_lowest ?k_lowest ?a_by_twos ?l_by_twos ?c_by_twos ?k_by_twos ?a_l_divisor ?l_l_divisor ?c_l_divisor ?k_l_divisor ?a_l_fraction ?l_l_fraction ?c_l_fraction ?k_l_fraction ?a_l_power ?l_l_power ?c_l_power ?k_l_power ?a_raised ?l_raised ?c_raised ?k_raised ?a_l_whole ?l_l_whole ?c_l_whole ?k_l_whole ?a_l_is_fraction ?l_l_is_fraction ?c_l_is_fraction ?k_l_is_fraction ?a_l_raised ?l_l_raised ?c_l_raised ?k_l_raised ?a_l_one ?l_l_one ?c_l_one ?k_l_one ?a_l_cell ?l_l_cell ?c_l_cell ?k_l_cell ?a_law ?l_law ?c_law ?k_law ?z_abs ?z_isinstance ?z_bool ?z_int ?z_len ?z_tuple ?z_range ?z_max ?z_min)
    (case a_l_begun => k_is)
    (case l_l_begun => k_is)
    (case c_l_begun => k_is)
    (case k_l_begun => k_is)
    (case a_l_draw => k_is)
    (case l_l_draw => k_is)
    (case c_l_draw => k_is)
    (case k_l_draw => k_is)
    (case a_l_number => k_is)
    (case l_l_number => k_is)
    (case c_l_number => k_is)
    (case k_l_number => k_is)
    (case a_divisor_of => k_is)
    (case l_divisor_of => k_is)
    (case c_divisor_of => k_is)
    (case k_divisor_of => k_is)
    (case a_lowest => k_is)
    (case l_lowest => k_is)
    (case c_lowest => k_is)
    (case k_lowest => k_is)
    (case a_by_twos => k_is)
    (case l_by_twos => k_is)
    (case c_by_twos => k_is)
    (case k_by_twos => k_is)
    (case a_l_divisor => k_is)
    (case l_l_divisor => k_is)
    (case c_l_divisor => k_is)
    (case k_l_divisor => k_is)
    (case a_l_fraction => k_is)
    (case l_l_fraction => k_is)
    (case c_l_fraction => k_is)
    (case k_l_fraction => k_is)
    (case a_l_power => k_is)
    (case l_l_power => k_is)
    (case c_l_power => k_is)
    (case k_l_power => k_is)
    (case a_raised => k_is)
    (case l_raised => k_is)
    (case c_raised => k_is)
    (case k_raised => k_is)
    (case a_l_whole => k_is)
    (case l_l_whole => k_is)
    (case c_l_whole => k_is)
    (case k_l_whole => k_is)
    (case a_l_is_fraction => k_is)
    (case l_l_is_fraction => k_is)
    (case c_l_is_fraction => k_is)
    (case k_l_is_fraction => k_is)
    (case a_l_raised => k_is)
    (case l_l_raised => k_is)
    (case c_l_raised => k_is)
    (case k_l_raised => k_is)
    (case a_l_one => k_is)
    (case l_l_one => k_is)
    (case c_l_one => k_is)
    (case k_l_one => k_is)
    (case a_l_cell => k_is)
    (case l_l_cell => k_is)
    (case c_l_cell => k_is)
    (case k_l_cell => k_is)
    (case a_law => k_is)
    (case l_law => k_is)
    (case c_law => k_is)
    (case k_law => k_is)
    (case z_abs => k_is)
    (case z_isinstance => k_is)
    (case z_bool => k_is)
    (case z_int => k_is)
    (case z_len => k_is)
    (case z_tuple => k_is)
    (case z_range => k_is)
    (case z_max => k_is)
    (case z_min => k_is)
