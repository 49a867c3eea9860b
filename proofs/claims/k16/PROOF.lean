import PyProof.Rows.All
import Wide.All
import OpenK.AllK
import Wide.FinOn
import HandS.ForMost
import HandS.Wide
import HandS.WideBits
import HandS.IsInst
import HandS.Style
import HandS.ForExc
import HandS.New0
import HandS.ExcInit
import HandS.ExcIs
import HandS.ClsMeth
import HandS.NoneIn
import HandS.Conv
import KE.IntBitsLaws
import HandS.Rev
import PySem.Challenge.RW_overwise_k16_into_words
set_option Elab.async false
set_option linter.all false
set_option maxRecDepth 100000
set_option maxHeartbeats 20000000
/-! ### own rules and steps -/
namespace Ow
open PySem L2
section
variable {Q : VK} {H H' : Hp} {A B : Prop}
theorem gi {e : Int} (h : ∀ x, x = e → Q (.int x) H) : Q (.int e) H := h e rfl
theorem gl {e n : Int} (h : e = n) (q : Q (.int n) H) : Q (.int e) H := h ▸ q
theorem gs {e n : Str} (h : e = n) (q : Q (.str n) H) : Q (.str e) H := h ▸ q
theorem cc {v : V} {σ : L2.St} (h : Q v H) : tC v σ H Q := h
theorem p2 (k : Nat) : (0 : Int) < 2 ^ k := Int.pow_pos (by decide)
theorem gpow {k : Nat} (h : ∀ x, x = (2 : Int) ^ k → 0 < x → Q (.int x) H) : Q (.int (1 * 2 ^ k)) H := by
  rw [Int.one_mul]; exact h _ rfl (p2 k)
theorem gmod {i j : Int} (hj : 0 < j) (h : ∀ x, x = i % j → 0 ≤ x → x < j → Q (.int x) H) : Q (.int (i % j)) H :=
  h _ rfl (Int.emod_nonneg _ (by omega)) (Int.emod_lt_of_pos _ hj)
theorem gmax {i j : Int} (h : ∀ x, (i ≤ x ∧ j ≤ x ∧ (x = i ∨ x = j)) → Q (.int x) H) : Q (.int (if j > i then j else i)) H := by
  apply h; split <;> omega
theorem gmin {i j : Int} (h : ∀ x, (x ≤ i ∧ x ≤ j ∧ (x = i ∨ x = j)) → Q (.int x) H) : Q (.int (if j < i then j else i)) H := by
  apply h; split <;> omega
theorem max_ite {x i j : Int} (h : x = if j > i then j else i) : i ≤ x ∧ j ≤ x ∧ (x = i ∨ x = j) := by split at h <;> omega
theorem min_ite {x i j : Int} (h : x = if j < i then j else i) : x ≤ i ∧ x ≤ j ∧ (x = i ∨ x = j) := by split at h <;> omega
theorem abs_ite {x i : Int} (h : x = if i < 0 then -i else i) : (0 ≤ i ∧ x = i) ∨ (i < 0 ∧ x = -i) := by split at h <;> omega
theorem eqi {a b : Int} (h : a = b) (q : Q (.int b) H) : Q (.int a) H := h ▸ q
theorem eqb {a b : Bool} (h : a = b) (q : Q (.bl b) H) : Q (.bl a) H := h ▸ q
theorem eqd {P : Prop} [Decidable P] (h : P) (q : Q (.bl true) H) : Q (.bl (decide P)) H := by rw [decide_eq_true h]; exact q
theorem eqnd {P : Prop} [Decidable P] (h : ¬ P) (q : Q (.bl true) H) : Q (.bl (!decide P)) H := by rw [decide_eq_false h]; exact q
theorem eqeqi {i j : Int} (h : i = j) (q : Q (.bl true) H) : Q (.bl (decide (V.int i = V.int j))) H := by rw [decide_eq_true (by rw [h])]; exact q
theorem eqnei {i j : Int} (h : i ≠ j) (q : Q (.bl true) H) : Q (.bl (!decide (V.int i = V.int j))) H := by
  rw [decide_eq_false (fun z => h (V.int.inj z))]; exact q
theorem ginteq {i j : Int} (h : ∀ n : Int, ((n = 1 ∧ i = j) ∨ (n = 0 ∧ i ≠ j)) → Q (.int n) H) : Q (.int (if decide (V.int i = V.int j) = true then 1 else 0)) H := by
  by_cases e : i = j
  · rw [if_pos (decide_eq_true (by rw [e]))]; exact h _ (.inl ⟨rfl, e⟩)
  · rw [if_neg (fun z => e (V.int.inj (of_decide_eq_true z)))]; exact h _ (.inr ⟨rfl, e⟩)
theorem gintd {P : Prop} [Decidable P] (h : ∀ n : Int, ((n = 1 ∧ P) ∨ (n = 0 ∧ ¬ P)) → Q (.int n) H) : Q (.int (if decide P = true then 1 else 0)) H := by
  by_cases e : P
  · rw [if_pos (decide_eq_true e)]; exact h _ (.inl ⟨rfl, e⟩)
  · rw [if_neg (fun z => e (of_decide_eq_true z))]; exact h _ (.inr ⟨rfl, e⟩)
theorem ifb {b : Bool} (h1 : b = true → A) (h2 : b = false → B) : if b = true then A else B := by
  cases b
  · exact iteF (h2 rfl)
  · exact iteT (h1 rfl)
/-- None or an int -/
def _root_.L2.V.ov : Option Int → V
  | none => .non
  | some r => .int r
theorem ov_inj : ∀ {a b : Option Int}, V.ov a = V.ov b → a = b
  | none, none, _ => rfl
  | none, some r, h => V.noConfusion h
  | some r, none, h => V.noConfusion h
  | some r, some s, h => by rw [V.int.inj h]
theorem scal_ov : ∀ {a b : Option Int}, scal (V.ov a) (V.ov b) = true
  | none, none => rfl
  | none, some r => rfl
  | some r, none => rfl
  | some r, some s => rfl
theorem ifeqo {a b : Option Int} (h1 : a = b → A) (h2 : a ≠ b → B) : if decide (V.ov a = V.ov b) = true then A else B := by
  by_cases e : a = b
  · rw [if_pos (decide_eq_true (by rw [e]))]; exact h1 e
  · rw [if_neg (fun z => e (ov_inj (of_decide_eq_true z)))]; exact h2 e
theorem ifneo {a b : Option Int} (h1 : a ≠ b → A) (h2 : a = b → B) : if (!decide (V.ov a = V.ov b)) = true then A else B := by
  by_cases e : a = b
  · rw [decide_eq_true (show V.ov a = V.ov b by rw [e])]; exact iteF (h2 e)
  · rw [decide_eq_false (fun z => e (ov_inj z))]; exact iteT (h1 e)
theorem eqeqo {a b : Option Int} (h : a = b) (q : Q (.bl true) H) : Q (.bl (decide (V.ov a = V.ov b))) H := by rw [decide_eq_true (by rw [h])]; exact q
theorem ifnb {b : Bool} (h1 : b = false → A) (h2 : b = true → B) : if (!b) = true then A else B := by
  cases b
  · exact iteT (h1 rfl)
  · exact iteF (h2 rfl)
theorem ifd {P : Prop} [Decidable P] (h1 : P → A) (h2 : ¬ P → B) : if decide P = true then A else B := by
  by_cases e : P
  · rw [if_pos (decide_eq_true e)]; exact h1 e
  · rw [if_neg (fun z => e (of_decide_eq_true z))]; exact h2 e
theorem ifnd {P : Prop} [Decidable P] (h1 : ¬ P → A) (h2 : P → B) : if (!decide P) = true then A else B := by
  by_cases e : P
  · rw [decide_eq_true e]; exact iteF (h2 e)
  · rw [decide_eq_false e]; exact iteT (h1 e)
theorem ifeqi {i j : Int} (h1 : i = j → A) (h2 : i ≠ j → B) : if decide (V.int i = V.int j) = true then A else B :=
  ifd (fun e => h1 (V.int.inj e)) (fun e => h2 (fun z => e (by rw [z])))
theorem ifnei {i j : Int} (h1 : i ≠ j → A) (h2 : i = j → B) : if (!decide (V.int i = V.int j)) = true then A else B :=
  ifnd (fun e => h1 (fun z => e (by rw [z]))) (fun e => h2 (V.int.inj e))
theorem ifeqs {i j : Str} (h1 : i = j → A) (h2 : i ≠ j → B) : if decide (V.str i = V.str j) = true then A else B :=
  ifd (fun e => h1 (V.str.inj e)) (fun e => h2 (fun z => e (by rw [z])))
theorem ifnes {i j : Str} (h1 : i ≠ j → A) (h2 : i = j → B) : if (!decide (V.str i = V.str j)) = true then A else B :=
  ifnd (fun e => h1 (fun z => e (by rw [z]))) (fun e => h2 (V.str.inj e))
theorem ifeqb {a b : Bool} (h1 : (a = true ↔ b = true) → A) (h2 : ¬ (a = true ↔ b = true) → B) : if decide (V.bl a = V.bl b) = true then A else B :=
  ifd (fun e => h1 (by rw [V.bl.inj e])) (fun e => h2 (fun z => e (by rw [Bool.eq_iff_iff.mpr z])))
theorem ifneb {a b : Bool} (h1 : ¬ (a = true ↔ b = true) → A) (h2 : (a = true ↔ b = true) → B) : if (!decide (V.bl a = V.bl b)) = true then A else B :=
  ifnd (fun e => h1 (fun z => e (by rw [Bool.eq_iff_iff.mpr z]))) (fun e => h2 (by rw [V.bl.inj e]))
/-! heaps -/
theorem at_new {p q : Addr} {u o : HO} (hp : H p = none) (h : H q = some o) : upd H p u q = some o := by rw [upd_ne (ne_of_none h hp)]; exact h
theorem at_mut {b q : Addr} {u o : HO} (hn : q ≠ b) (h : H q = some o) : upd H b u q = some o := by rw [upd_ne hn]; exact h
theorem ne_tl {p b : Addr} {xs ys : List V} (h : H p = some (.tup xs)) (hb : H b = some (.lst ys)) : p ≠ b := fun e => by rw [e, hb] at h; cases h
theorem at_mutT {b p : Addr} {u : HO} {xs ys : List V} (hb : H b = some (.lst ys)) (h : H p = some (.tup xs)) : upd H b u p = some (.tup xs) := at_mut (ne_tl h hb) h
theorem at_mutL {b p : Addr} {u : HO} {xs ys : List V} (hb : H b = some (.tup ys)) (h : H p = some (.lst xs)) : upd H b u p = some (.lst xs) := at_mut (fun e => ne_tl hb h e.symm) h
theorem same_new {p : Addr} {u : HO} (hp : H p = none) : Same H (upd H p u) := fun _ _ h => at_new hp h
theorem same_mut {b : Addr} {u : HO} (s : Same H H') (hb : H b = none) : Same H (upd H' b u) := fun q o h => by rw [upd_ne (ne_of_none h hb)]; exact s q o h
theorem ne_sym {a b : Addr} (h : a ≠ b) : b ≠ a := fun z => h z.symm
theorem seq {K : PySem.W.Frag} {a : Addr} {xs : List V} (e : Same H H') (h : SqL K H a xs) : SqL K H' a xs := e.seq h
theorem seqT {K : PySem.W.Frag} {a : Addr} {xs : List V} (e : Same H H') (h : SqT K H a xs) : SqT K H' a xs := by
  rcases h with (h | ⟨o, h⟩) | h
  · exact .inl (.inl (e _ _ h))
  · exact .inl (.inr ⟨o, e _ _ h⟩)
  · exact .inr h
end
/-! operators -/
section
variable {X : Cx}
/-- named answers -/
theorem op_mulN : OpR X (binaryOp .Mult) (fun x y H Q => ∃ i j, x = .int i ∧ y = .int j ∧ (CMul i j ∨ CMulX i j) ∧ ∀ z, z = i * j → Q (.int z) H) := by
  intro pins s σ H x y v u Q I rx ry q
  obtain ⟨i, j, rfl, rfl, hc | hc, q⟩ := q
  · exact op_mul pins s σ H _ _ v u Q I rx ry ⟨i, j, rfl, rfl, hc, q _ rfl⟩
  · exact op_mulX pins s σ H _ _ v u Q I rx ry ⟨i, j, rfl, rfl, hc, q _ rfl⟩
theorem op_divN : OpR X (binaryOp .FloorDiv) (fun x y H Q => ∃ i j, x = .int i ∧ y = .int j ∧ CDivW i j ∧ ∀ z, z = i / j → Q (.int z) H) := by
  intro pins s σ H x y v u Q I rx ry q
  obtain ⟨i, j, rfl, rfl, hc, q⟩ := q
  exact op_fdivW pins s σ H _ _ v u Q I rx ry ⟨i, j, rfl, rfl, hc, q _ rfl⟩
theorem op_divF : OpR X (binaryOp .FloorDiv) (fun x y H Q => ∃ i j, x = .int i ∧ y = .int j ∧ (j ≠ 0 ∧ j.natAbs.log2 < 9000) ∧ ∀ z, z = i.fdiv j → Q (.int z) H) := by
  intro pins s σ H x y v u Q I rx ry q
  obtain ⟨i, j, rfl, rfl, hc, q⟩ := q
  obtain ⟨t, rfl⟩ := rx
  obtain ⟨t', rfl⟩ := ry
  exact PyProof.Rows.floordiv_int hc.1 ⟨.int (i.fdiv j), H, I.tok _, ⟨_, rfl⟩, q _ rfl⟩ (.inl (PyProof.noPylong_of_log2 hc.2))
theorem op_shlN : OpR X (binaryOp .LShift) (fun x y H Q => ∃ i j, x = .int i ∧ y = .int j ∧ (CPow i j ∨ CShl i j) ∧ ∀ z, z = i * 2 ^ j.toNat → Q (.int z) H) := by
  intro pins s σ H x y v u Q I rx ry q
  obtain ⟨i, j, rfl, rfl, hc | hc, q⟩ := q
  · exact op_shl pins s σ H _ _ v u Q I rx ry ⟨i, j, rfl, rfl, hc, q _ rfl⟩
  · exact op_shlW pins s σ H _ _ v u Q I rx ry ⟨i, j, rfl, rfl, hc, q _ rfl⟩
theorem op_shrN : OpR X (binaryOp .RShift) (fun x y H Q => ∃ i j, x = .int i ∧ y = .int j ∧ 0 ≤ j ∧ ∀ z, z = i / 2 ^ j.toNat → Q (.int z) H) := by
  intro pins s σ H x y v u Q I rx ry q
  obtain ⟨i, j, rfl, rfl, hc, q⟩ := q
  exact op_shr pins s σ H _ _ v u Q I rx ry ⟨i, j, rfl, rfl, hc, q _ rfl⟩
theorem op_modN : OpR X (binaryOp .Mod) (fun x y H Q => ∃ i j, x = .int i ∧ y = .int j ∧ 0 < j ∧ ∀ z, z = i % j → 0 ≤ z → z < j → Q (.int z) H) := by
  intro pins s σ H x y v u Q I rx ry q
  obtain ⟨i, j, rfl, rfl, hc, q⟩ := q
  exact op_mod pins s σ H _ _ v u Q I rx ry ⟨i, j, rfl, rfl, hc, q _ rfl (Int.emod_nonneg _ (by omega)) (Int.emod_lt_of_pos _ hc)⟩
theorem op_shl1 : OpR X (binaryOp .LShift) (fun x y H Q => ∃ j, x = .int 1 ∧ y = .int j ∧ (0 ≤ j ∧ j ≤ 1000000) ∧ ∀ z, z = 2 ^ j.toNat → 0 < z → Q (.int z) H) := by
  intro pins s σ H x y v u Q I rx ry q
  obtain ⟨j, rfl, rfl, ⟨h0, h1⟩, q⟩ := q
  refine op_shl pins s σ H _ _ v u Q I rx ry ⟨1, j, rfl, rfl, ⟨h0, h1, by decide⟩, ?_⟩
  show Q (.int (1 * 2 ^ j.toNat)) H
  rw [Int.one_mul]
  exact q _ rfl (p2 _)
theorem op_mask : OpR X (binaryOp .BitAnd) (fun x y H Q => ∃ (i j : Int) (k : Nat), x = .int i ∧ y = .int j ∧ j = 2 ^ k - 1 ∧ ∀ r, r = i % 2 ^ k → 0 ≤ r → r < 2 ^ k → Q (.int r) H) := by
  intro pins s σ H x y v u Q I rx ry h
  obtain ⟨i, j, k, rfl, rfl, rfl, q⟩ := h
  refine op_andM pins s σ H _ _ v u Q I rx ry ⟨i, k, rfl, rfl, q _ rfl (Int.emod_nonneg _ ?_) (Int.emod_lt_of_pos _ (p2 k))⟩
  have := p2 k; omega
theorem op_bor : OpR X (binaryOp .BitOr) (fun x y H Q => ∃ (i j : Int), x = .int i ∧ y = .int j ∧ 0 ≤ i ∧ 0 ≤ j ∧ ∀ r, r = Builtin.bitOr i j → 0 ≤ r → Q (.int r) H) := by
  intro pins s σ H x y v u Q I rx ry h
  obtain ⟨i, j, rfl, rfl, h0, h1, q⟩ := h
  refine op_or pins s σ H _ _ v u Q I rx ry ⟨i, j, rfl, rfl, q _ rfl ?_⟩
  rw [bitOr_nn h0 h1]
  exact Int.natCast_nonneg _
theorem call_dm : CallR X (.builtin "divmod") (fun xs H Q => ∃ i j, xs = [.int i, .int j] ∧ CDivP i j ∧ ∀ q r p, q = i / j → r = i % j → 0 ≤ r → r < j → H p = none → Q (.ref p) (upd H p (.tup [.int q, .int r]))) := by
  intro pins s σ H xs us Q I r h
  obtain ⟨i, j, rfl, hc, q⟩ := h
  exact call_divmodW pins s σ H _ us Q I r ⟨i, j, rfl, hc, fun p hp => q _ _ p rfl rfl (Int.emod_nonneg _ (by have := hc.1; omega)) (Int.emod_lt_of_pos _ hc.1) hp⟩
theorem call_intb : CallR X (.type "int") (fun xs H Q => ∃ k, xs = [.bl k] ∧ ∀ n : Int, ((n = 1 ∧ k = true) ∨ (n = 0 ∧ k = false)) → Q (.int n) H) := by
  intro pins s σ H xs us Q I r h
  obtain ⟨k, rfl, q⟩ := h
  refine call_int1 pins s σ H _ us Q I r (.inr ⟨k, rfl, ?_⟩)
  cases k
  · exact q _ (.inr ⟨rfl, rfl⟩)
  · exact q _ (.inl ⟨rfl, rfl⟩)
/-- an int's value by a name -/
def tNmi (t : TE) : TE := fun σ H Q => t σ H fun v H1 => ∃ i, v = .int i ∧ ∀ x, x = i → Q (.int x) H1
theorem pe_nmi {e : Expr} {t : TE} (h : PE X e t) : PE X e (tNmi t) := ⟨fun pins s σ H Q I q => thn (h.run pins s σ H _ I q) fun _ _ z => by
  obtain ⟨v, H1, I1, r1, i, rfl, q1⟩ := z
  exact ⟨.int i, H1, I1, r1, q1 i rfl⟩⟩
/-- a reckoned constant -/
def tLit (n : Int) (t : TE) : TE := fun σ H Q => t σ H fun v H1 => v = .int n ∧ Q (.int n) H1
theorem pe_lit (n : Int) {e : Expr} {t : TE} (h : PE X e t) : PE X e (tLit n t) := ⟨fun pins s σ H Q I q => thn (h.run pins s σ H _ I q) fun _ _ z => by
  obtain ⟨v, H1, I1, r1, rfl, q1⟩ := z
  exact ⟨.int n, H1, I1, r1, q1⟩⟩
end
theorem pow2_mono {a b : Nat} (h : a ≤ b) : (2 : Int) ^ a ≤ 2 ^ b := by
  have e : (2 : Int) ^ b = 2 ^ a * 2 ^ (b - a) := by rw [← Int.pow_add, show a + (b - a) = b by omega]
  rw [e]
  have h1 := p2 a
  have h2 := p2 (b - a)
  calc (2 : Int) ^ a = 2 ^ a * 1 := by omega
    _ ≤ 2 ^ a * 2 ^ (b - a) := Int.mul_le_mul_of_nonneg_left (by omega) (by omega)
theorem pow2_pred {w : Int} (h : 1 ≤ w) : (2 : Int) ^ w.toNat = 2 * 2 ^ (w - 1).toNat := by
  have e : w.toNat = (w - 1).toNat + 1 := by omega
  rw [e, Int.pow_succ, Int.mul_comm]
theorem pow2_lt {a b : Int} (h0 : 0 ≤ a) (h : a < b) : (2 : Int) ^ a.toNat < 2 ^ b.toNat := by
  have h1 := pow2_mono (a := a.toNat) (b := (b - 1).toNat) (by omega)
  have h2 := pow2_pred (w := b) (by omega)
  have h3 := p2 (b - 1).toNat
  omega
theorem pow2_le32 {w : Int} (h : w ≤ 32) : (2 : Int) ^ w.toNat ≤ 4294967296 := pow2_mono (b := 32) (by omega)
theorem pow2_le64 {w : Int} (h : w ≤ 64) : (2 : Int) ^ w.toNat ≤ 18446744073709551616 := pow2_mono (b := 64) (by omega)
theorem divw64 {i j : Int} (h0 : 0 < j) (h : j ≤ 18446744073709551616) : CDivW i j := wide_div h0 (b := 65) (by omega) (by decide) (by decide)
/-! sizes -/
def Sz (n : Nat) (i : Int) : Prop := i.natAbs < 2 ^ n
theorem Sz.lit {n : Nat} {i : Int} (h : i.natAbs < 2 ^ n) : Sz n i := h
theorem Sz.mono {a b : Nat} {i : Int} (h : Sz a i) (hab : a ≤ b) : Sz b i := Nat.lt_of_lt_of_le h (Nat.pow_le_pow_right (by decide) hab)
theorem Sz.mul {a b : Nat} {i j : Int} (h : Sz a i) (h' : Sz b j) : Sz (a + b) (i * j) := wide_lt h h'
theorem Sz.le {a : Nat} {i j : Int} (h : Sz a i) (hl : j.natAbs ≤ i.natAbs) : Sz a j := Nat.lt_of_le_of_lt hl h
theorem Sz.add {a : Nat} {i j : Int} (h : Sz a i) (h' : Sz a j) : Sz (a + 1) (i + j) := by
  unfold Sz at *
  rw [Nat.pow_succ]
  have := Int.natAbs_add_le i j
  omega
theorem Sz.neg {a : Nat} {i : Int} (h : Sz a i) : Sz a (-i) := by unfold Sz at *; rw [Int.natAbs_neg]; exact h
theorem Sz.sub {a : Nat} {i j : Int} (h : Sz a i) (h' : Sz a j) : Sz (a + 1) (i - j) := by
  rw [Int.sub_eq_add_neg]; exact h.add h'.neg
theorem Sz.pow {k : Int} {n : Nat} (h : k ≤ n) : Sz (n + 1) (2 ^ k.toNat) := by
  unfold Sz
  rw [Int.natAbs_pow]
  exact Nat.pow_lt_pow_right (by decide) (by omega)
theorem Sz.shl {a n : Nat} {i k : Int} (h : Sz a i) (hk : k ≤ n) : Sz (a + (n + 1)) (i * 2 ^ k.toNat) := h.mul (Sz.pow hk)
theorem Sz.div {a : Nat} {i j : Int} (h : Sz a i) (hj : 0 < j) : Sz a (i / j) := by
  refine h.le ?_
  have h1 := Int.ediv_mul_add_emod i j
  have h2 := Int.emod_nonneg i (show j ≠ 0 by omega)
  have h3 := Int.emod_lt_of_pos i hj
  by_cases hi : i < 0
  · have h4 : i ≤ i / j := by
      refine (Int.le_ediv_iff_mul_le hj).mpr ?_
      have : i * 1 ≥ i * j := Int.mul_le_mul_of_nonpos_left (by omega) (by omega)
      omega
    have h5 : i / j < 0 := Int.ediv_neg_of_neg_of_pos hi hj
    omega
  · have h4 : i / j ≤ i := Int.ediv_le_self _ (by omega)
    have h5 : 0 ≤ i / j := Int.ediv_nonneg (by omega) (by omega)
    omega
theorem Sz.rng {n : Nat} {i j : Int} (h0 : 0 ≤ i) (h1 : i < j) (h : j.natAbs ≤ 2 ^ n) : Sz n i := by
  unfold Sz; omega
theorem Sz.md {n : Nat} {i j : Int} (h0 : 0 ≤ i) (h1 : i < j) (h : Sz n j) : Sz n i := by
  unfold Sz at *; omega
theorem Sz.or {n : Nat} {x i j : Int} (h : x = i ∨ x = j) (hi : Sz n i) (hj : Sz n j) : Sz n x := by rcases h with rfl | rfl <;> assumption
theorem Sz.abs {n : Nat} {x i : Int} (h : Sz n i) (hx : x = if i < 0 then -i else i) : Sz n x := by
  refine h.le ?_; split at hx <;> omega
theorem mul0 {i j : Int} (h : -(2 ^ 64) < i ∧ i < 2 ^ 64) : CMul i j ∨ CMulX i j := .inl (.inl h)
theorem mul1 {i j : Int} (h : -(2 ^ 64) < j ∧ j < 2 ^ 64) : CMul i j ∨ CMulX i j := .inl (.inr h)
theorem shl0 {i j : Int} (h : 0 ≤ j) (h' : j ≤ 1000000) (h2 : i.natAbs < 2 ^ 64) : CPow i j ∨ CShl i j := .inl ⟨h, h', h2⟩
theorem szW {i : Int} (h : -(2 ^ 200) < i ∧ i < 2 ^ 200) : Sz 200 i := by unfold Sz; omega
theorem mulW {i j : Int} (h : -(2 ^ 200) < i ∧ i < 2 ^ 200) (h' : -(2 ^ 200) < j ∧ j < 2 ^ 200) : CMul i j ∨ CMulX i j := .inr (mulx_ok (szW h) (szW h') (by decide))
theorem divW {i j : Int} (h : 0 < j) (h' : j < 2 ^ 200) : CDivW i j := wide_div h (b := 200) (szW ⟨by omega, h'⟩) (by decide) (by decide)
theorem shlW {i j : Int} (h : 0 ≤ j) (h' : j ≤ 1000) (h2 : -(2 ^ 200) < i ∧ i < 2 ^ 200) : CPow i j ∨ CShl i j := by
  obtain ⟨n, rfl⟩ := Int.eq_ofNat_of_zero_le h
  exact .inr (shl_ok (n := 200) (szW h2) (by omega))
theorem mulx {a b : Nat} {i j : Int} (h : Sz a i) (h' : Sz b j) (hl : a + b ≤ 134217728) : CMulX i j := mulx_ok h h' hl
theorem divz {b : Nat} {i j : Int} (h : 0 < j) (hb : Sz b j) (h0 : 0 < b) (h9 : b ≤ 9000) : CDivW i j := wide_div h hb h0 h9
theorem divzF {b : Nat} {j : Int} (h : j ≠ 0) (hb : Sz b j) (h0 : 0 < b) (h9 : b ≤ 9000) : j ≠ 0 ∧ j.natAbs.log2 < 9000 := ⟨h, Nat.lt_of_lt_of_le (PySem.Flt.log2_lt_of h0 hb) h9⟩
theorem eqdd {P P' : Prop} [Decidable P] [Decidable P'] {Q : VK} {H : Hp} (h : P ↔ P') (q : Q (.bl (decide P')) H) : Q (.bl (decide P)) H := by rw [decide_eq_decide.mpr h]; exact q
theorem eqeqb {i j : Bool} {Q : VK} {H : Hp} (h : i = j) (q : Q (.bl true) H) : Q (.bl (decide (V.bl i = V.bl j))) H := by rw [decide_eq_true (by rw [h])]; exact q
theorem ix_tupK {X : Cx} {K : PySem.W.Frag} (h : X.K = K) : IxR X (rIxT K) := h ▸ ix_tup
theorem ix_listK {X : Cx} {K : PySem.W.Frag} (h : X.K = K) : IxR X (rIxL K) := h ▸ ix_list
theorem call_lenK {X : Cx} {K : PySem.W.Frag} (h : X.K = K) : CallR X (.builtin "len") (fun xs H Q => ∃ p ys, xs = [.ref p] ∧ (SqL K H p ys ∨ SqT K H p ys) ∧ Q (.int ys.length) H) := h ▸ call_len_seq
theorem tyes {σ : L2.St} {H : Hp} {Q : Bool → Hp → Prop} (h : Q true H) : tYes σ H Q := h
theorem dmz {a : Nat} {i j : Int} (h : 0 < j) (hz : Sz a i) (ha : a ≤ 4000) : CDivP i j := divp_ok h (by have := PyProof.Rows.intBits_le hz; omega)
theorem dms {i j : Int} (h : 0 < j) (h0 : -(2 ^ 64) < i) (h1 : i < 2 ^ 64) : CDivP i j := dmz (a := 64) h (by unfold Sz; omega) (by decide)
theorem shlz {a n : Nat} {i j : Int} (h : Sz a i) (h0 : 0 ≤ j) (hj : j ≤ n) (hn : a + n ≤ 134217728) : CShl i j := by
  obtain ⟨k, rfl⟩ : ∃ k : Nat, j = k := ⟨j.toNat, by omega⟩
  exact shl_ok h (by omega)
/-- all but the object at b is as it was -/
def Fm (b : Addr) (H H' : Hp) : Prop := ∀ q o, q ≠ b → H q = some o → H' q = some o
theorem at_fmT {b p : Addr} {xs ys : List V} (f : Fm b H H') (hb : H b = some (.lst ys)) (h : H p = some (.tup xs)) : H' p = some (.tup xs) := f _ _ (ne_tl h hb) h
theorem Fm.refl {b : Addr} {H : Hp} : Fm b H H := fun _ _ _ h => h
theorem Fm.same {b : Addr} {H H1 H2 : Hp} (a : Fm b H H1) (s : Same H1 H2) : Fm b H H2 := fun q o n h => s q o (a q o n h)
theorem Fm.mut {b : Addr} {H H1 : Hp} {u : HO} (a : Fm b H H1) : Fm b H (upd H1 b u) := fun q o n h => by rw [upd_ne n]; exact a q o n h
theorem Fm.mutF {b c : Addr} {H H1 : Hp} {u : HO} (a : Fm b H H1) (hc : H c = none) : Fm b H (upd H1 c u) := fun q o n h => by rw [upd_ne (ne_of_none h hc)]; exact a q o n h
theorem Fm.trans {b : Addr} {H H1 H2 : Hp} (a : Fm b H H1) (s : Fm b H1 H2) : Fm b H H2 := fun q o n h => s q o n (a q o n h)
theorem Fm.frameF {b c : Addr} {H H1 H2 : Hp} (a : Fm b H H1) (s : Fm c H1 H2) (hc : H c = none) : Fm b H H2 := fun q o n h => s q o (ne_of_none h hc) (a q o n h)
theorem Fm.free {b : Addr} {H H' : Hp} (a : Fm b H H') {o : HO} {l : Addr} (hb : H' b = some o) (h : H' l = none) : H l = none := by
  cases e : H l with
  | none => rfl
  | some u =>
    have n : l ≠ b := fun z => by rw [z, hb] at h; cases h
    rw [a l u n e] at h; cases h
theorem same_frame {c : Addr} {H H1 H2 : Hp} (s : Same H H1) (f : Fm c H1 H2) (hc : H c = none) : Same H H2 := fun q o h => f q o (ne_of_none h hc) (s q o h)
/-! lists of ints -/
theorem szl {n : Nat} (h : n < 1000000) : n < sizeLine := Nat.lt_of_lt_of_le h (by decide)
theorem szle {n : Nat} (h : n ≤ 1000000) : n ≤ sizeLine := Nat.le_trans h (by decide)
section
variable {X : Cx} {K : PySem.W.Frag} {H H' : Hp} {Q : VK} {a : Addr}
theorem ap_ints {xs : List Int} {e : Int} (h : H a = some (.lst (xs.map V.int ++ [.int e]))) : H a = some (.lst ((xs ++ [e]).map V.int)) := by
  rw [List.map_append]; exact h
theorem set_ints {xs : List Int} {e : Int} {j : Nat} (h : H a = some (.lst ((xs.map V.int).set j (.int e)))) : H a = some (.lst ((xs.set j e).map V.int)) := by
  rw [List.map_set]; exact h
theorem dpAll_ints : ∀ xs : List Int, DpAll K H (xs.map V.int) (xs.map PyData.int)
  | [] => .nil
  | x :: xs => .cons (.int x) (dpAll_ints xs)
theorem dp_ints {xs : List Int} (h : SqL K H a (xs.map V.int)) : Dp K H (.ref a) (.list (xs.map PyData.int)) := .lst h (dpAll_ints xs)
theorem layAll_ints : ∀ xs : List Int, PyData.canLayAll0 (xs.map PyData.int) = true
  | [] => rfl
  | x :: xs => by
    rw [List.map_cons, PyData.canLayAll0, layAll_ints xs]
    rfl
theorem depAll_ints : ∀ xs : List Int, PyData.depthAll (xs.map PyData.int) = 0
  | [] => rfl
  | x :: xs => by
    rw [List.map_cons, PyData.depthAll, depAll_ints xs]
    rfl
theorem shaped_ints (xs : List Int) : SeqAt.shaped (.list (xs.map PyData.int)) = true := by
  unfold SeqAt.shaped
  rw [PyData.canLay0, PyData.depth, layAll_ints, depAll_ints]
  rfl
theorem shp {d : PyData} (h : PyData.canLay0 d = true) (g : PyData.depth d ≤ 64) : SeqAt.shaped d = true := by
  unfold SeqAt.shaped; rw [h]; simpa using g
theorem eqvAll_ints : ∀ xs ys : List Int, PyData.eqvAll (xs.map PyData.int) (ys.map PyData.int) = decide (xs = ys)
  | [], [] => rfl
  | [], _ :: _ => rfl
  | _ :: _, [] => rfl
  | x :: xs, y :: ys => by
    rw [List.map_cons, List.map_cons, PyData.eqvAll, PyData.eqv, eqvAll_ints xs ys]
    by_cases h : x = y
    · by_cases h2 : xs = ys <;> simp [h, h2]
    · simp [h]
theorem eqv_ints (xs ys : List Int) : PyData.eqv (.list (xs.map PyData.int)) (.list (ys.map PyData.int)) = decide (xs = ys) := by
  rw [PyData.eqv]; exact eqvAll_ints xs ys
theorem op_eqI (hu : X.A.units + 64 < cLine) : OpR X (compareOp .Eq) (fun x y H Q => ∃ (a b : Addr) (xs ys : List Int), x = .ref a ∧ y = .ref b ∧ SqL X.K H a (xs.map V.int) ∧ SqL X.K H b (ys.map V.int) ∧ Q (.bl (decide (xs = ys))) H) := by
  intro pins s σ H x y v u Q I rx ry h
  obtain ⟨a, b, xs, ys, rfl, rfl, h1, h2, q⟩ := h
  refine op_eqD hu pins s σ H _ _ v u Q I rx ry ⟨_, _, dp_ints h1, dp_ints h2, shaped_ints _, shaped_ints _, ?_⟩
  rw [eqv_ints]; exact q
theorem op_neI (hu : X.A.units + 64 < cLine) : OpR X (compareOp .NotEq) (fun x y H Q => ∃ (a b : Addr) (xs ys : List Int), x = .ref a ∧ y = .ref b ∧ SqL X.K H a (xs.map V.int) ∧ SqL X.K H b (ys.map V.int) ∧ Q (.bl (!decide (xs = ys))) H) := by
  intro pins s σ H x y v u Q I rx ry h
  obtain ⟨a, b, xs, ys, rfl, rfl, h1, h2, q⟩ := h
  refine op_neD hu pins s σ H _ _ v u Q I rx ry ⟨_, _, dp_ints h1, dp_ints h2, shaped_ints _, shaped_ints _, ?_⟩
  rw [eqv_ints]; exact q
theorem dpT_ints {xs : List Int} (h : SqT K H a (xs.map V.int)) : Dp K H (.ref a) (.tuple (xs.map PyData.int)) := .tup h (dpAll_ints xs)
theorem shapedT_ints (xs : List Int) : SeqAt.shaped (.tuple (xs.map PyData.int)) = true := by
  unfold SeqAt.shaped
  rw [PyData.canLay0, PyData.depth, layAll_ints, depAll_ints]
  rfl
theorem eqvT_ints (xs ys : List Int) : PyData.eqv (.tuple (xs.map PyData.int)) (.tuple (ys.map PyData.int)) = decide (xs = ys) := by
  rw [PyData.eqv]; exact eqvAll_ints xs ys
theorem op_eqT (hu : X.A.units + 64 < cLine) : OpR X (compareOp .Eq) (fun x y H Q => ∃ (a b : Addr) (xs ys : List Int), x = .ref a ∧ y = .ref b ∧ SqT X.K H a (xs.map V.int) ∧ SqT X.K H b (ys.map V.int) ∧ Q (.bl (decide (xs = ys))) H) := by
  intro pins s σ H x y v u Q I rx ry h
  obtain ⟨a, b, xs, ys, rfl, rfl, h1, h2, q⟩ := h
  refine op_eqD hu pins s σ H _ _ v u Q I rx ry ⟨_, _, dpT_ints h1, dpT_ints h2, shapedT_ints _, shapedT_ints _, ?_⟩
  rw [eqvT_ints]; exact q
theorem op_neT (hu : X.A.units + 64 < cLine) : OpR X (compareOp .NotEq) (fun x y H Q => ∃ (a b : Addr) (xs ys : List Int), x = .ref a ∧ y = .ref b ∧ SqT X.K H a (xs.map V.int) ∧ SqT X.K H b (ys.map V.int) ∧ Q (.bl (!decide (xs = ys))) H) := by
  intro pins s σ H x y v u Q I rx ry h
  obtain ⟨a, b, xs, ys, rfl, rfl, h1, h2, q⟩ := h
  refine op_neD hu pins s σ H _ _ v u Q I rx ry ⟨_, _, dpT_ints h1, dpT_ints h2, shapedT_ints _, shapedT_ints _, ?_⟩
  rw [eqvT_ints]; exact q
theorem flat_ints (xs : List Int) : (xs.map V.int).all flatV = true := by
  rw [List.all_map, List.all_eq_true]; intro x _; rfl
theorem inV_ints (i : Int) (xs : List Int) : inV (.int i) (xs.map V.int) = decide (i ∈ xs) := by
  unfold inV
  rw [Bool.eq_iff_iff, List.any_map, List.any_eq_true, decide_eq_true_eq]
  constructor
  · rintro ⟨y, hy, e⟩
    have : (y == i) = true := e
    rw [← beq_iff_eq.mp this]; exact hy
  · exact fun h => ⟨i, h, beq_self_eq_true i⟩
theorem op_inI : OpR X (compareOp .In) (fun x y H Q => ∃ (i : Int) (p : Addr) (xs : List Int), x = .int i ∧ y = .ref p ∧ SqL X.K H p (xs.map V.int) ∧ Q (.bl (decide (i ∈ xs))) H) := by
  intro pins s σ H x y v u Q I rx ry h
  obtain ⟨i, p, xs, rfl, rfl, hs, q⟩ := h
  refine op_in_seq pins s σ H _ _ v u Q I rx ry ⟨_, _, rfl, .inl hs, rfl, flat_ints xs, ?_⟩
  rw [if_neg Bool.false_ne_true, inV_ints]
  exact q
theorem op_notInI : OpR X (compareOp .NotIn) (fun x y H Q => ∃ (i : Int) (p : Addr) (xs : List Int), x = .int i ∧ y = .ref p ∧ SqL X.K H p (xs.map V.int) ∧ Q (.bl (!decide (i ∈ xs))) H) := by
  intro pins s σ H x y v u Q I rx ry h
  obtain ⟨i, p, xs, rfl, rfl, hs, q⟩ := h
  refine op_notIn_seq pins s σ H _ _ v u Q I rx ry ⟨_, _, rfl, .inl hs, rfl, flat_ints xs, ?_⟩
  rw [if_pos rfl, inV_ints]
  exact q
theorem ixN_nat {n j : Nat} (h : j < n) : ixN n (j : Int) = some j := by
  unfold ixN
  rw [if_pos (by omega), if_pos (by omega)]; simp
theorem ixlast {xs : List Int} (h : SqL K H a (xs.map V.int)) (h0 : 0 < xs.length) (q : ∀ y, xs.getLast? = some y → Q (.int y) H) : rIxL K (.ref a) (.int (-1)) H Q := by
  obtain ⟨y, hy⟩ : ∃ y, xs.getLast? = some y := by
    cases e : xs.getLast? with
    | none => rw [List.getLast?_eq_none_iff] at e; subst e; simp at h0
    | some y => exact ⟨y, rfl⟩
  refine ⟨a, _, _, .int y, rfl, rfl, h, ?_, q y hy⟩
  obtain ⟨ys, rfl⟩ := List.getLast?_eq_some_iff.mp hy
  rw [List.map_append]
  exact atI_last _ _
end
/-! items -/
section
variable {K : PySem.W.Frag} {H : Hp} {Q : VK} {a : Addr}
theorem ixi {xs : List Int} {i : Int} (h : SqL K H a (xs.map V.int)) (h0 : 0 ≤ i) (h1 : i < xs.length) (q : ∀ y, xs[i.toNat]? = some y → Q (.int y) H) : rIxL K (.ref a) (.int i) H Q := by
  obtain ⟨n, rfl⟩ : ∃ n : Nat, i = n := ⟨i.toNat, by omega⟩
  have hl : n < xs.length := by omega
  refine ⟨a, _, _, .int (xs[n]'hl), rfl, rfl, h, atI_nat ?_, q _ (List.getElem?_eq_getElem hl)⟩
  rw [List.getElem?_map, List.getElem?_eq_getElem hl]
  all_goals rfl
theorem inV_int {y : Int} {xs : List Int} (h : y ∈ xs) : (if false = true then !(inV (.int y) (xs.map V.int)) else inV (.int y) (xs.map V.int)) = true := by
  rw [if_neg Bool.false_ne_true]
  unfold inV
  rw [List.any_map, List.any_eq_true]
  exact ⟨y, h, by simp [eqV]⟩
theorem ixn {xs : List Int} {i : Int} (h : SqL K H a (xs.map V.int)) (h0 : 0 ≤ i) (h1 : i < xs.length) (q : ∀ y, xs[i.toNat]? = some y → Q (.int y) H) : rIxL K (.ref a) (.int i) H Q := ixi h h0 h1 q
theorem ixi2 {x0 x1 : Int} {i : Int} (h : SqL K H a [.int x0, .int x1]) (hi : 0 ≤ i ∧ i < 2) (q : ∀ y, ((i = 0 ∧ y = x0) ∨ (i = 1 ∧ y = x1)) → Q (.int y) H) : rIxL K (.ref a) (.int i) H Q := by
  refine ixi (xs := [x0, x1]) h hi.1 hi.2 fun y hy => q y ?_
  have : i = 0 ∨ i = 1 := by omega
  rcases this with rfl | rfl <;> simp at hy <;> omega
theorem ixi3 {x0 x1 x2 : Int} {i : Int} (h : SqL K H a [.int x0, .int x1, .int x2]) (hi : 0 ≤ i ∧ i < 3) (q : ∀ y, ((i = 0 ∧ y = x0) ∨ (i = 1 ∧ y = x1) ∨ (i = 2 ∧ y = x2)) → Q (.int y) H) : rIxL K (.ref a) (.int i) H Q := by
  refine ixi (xs := [x0, x1, x2]) h hi.1 hi.2 fun y hy => q y ?_
  have : i = 0 ∨ i = 1 ∨ i = 2 := by omega
  rcases this with rfl | rfl | rfl <;> simp at hy <;> omega
theorem ixs4 {x0 x1 x2 x3 : Str} {i : Int} (h : SqL K H a [.str x0, .str x1, .str x2, .str x3]) (hi : 0 ≤ i ∧ i < 4) (q : ∀ y, ((i = 0 ∧ y = x0) ∨ (i = 1 ∧ y = x1) ∨ (i = 2 ∧ y = x2) ∨ (i = 3 ∧ y = x3)) → Q (.str y) H) : rIxL K (.ref a) (.int i) H Q := by
  obtain ⟨n, rfl⟩ : ∃ n : Nat, i = n := ⟨i.toNat, by omega⟩
  have : n = 0 ∨ n = 1 ∨ n = 2 ∨ n = 3 := by omega
  rcases this with rfl | rfl | rfl | rfl
  · exact ⟨a, _, _, .str x0, rfl, rfl, h, atI_nat (j := 0) rfl, q _ (by simp)⟩
  · exact ⟨a, _, _, .str x1, rfl, rfl, h, atI_nat (j := 1) rfl, q _ (by simp)⟩
  · exact ⟨a, _, _, .str x2, rfl, rfl, h, atI_nat (j := 2) rfl, q _ (by simp)⟩
  · exact ⟨a, _, _, .str x3, rfl, rfl, h, atI_nat (j := 3) rfl, q _ (by simp)⟩
theorem gturn {n i : Nat} {σ : L2.St} {R : L2.St → Hp → Prop} (h : ∀ x : Int, x = (i : Int) → gName n (.int x) σ H R) : gName n (.int (0 + (i : Int))) σ H R := h _ (by omega)
theorem ints_get {xs : List Int} {i : Nat} {v : V} (h : (xs.map V.int)[i]? = some v) : ∃ n, v = .int n ∧ xs[i]? = some n := by
  rw [List.getElem?_map] at h
  cases e : xs[i]? with
  | none => rw [e] at h; cases h
  | some n => rw [e] at h; exact ⟨n, (Option.some.inj h).symm, rfl⟩
/-- the ints a .. b - 1 -/
def rgI (a b : Int) : List Int := (List.range (b - a).toNat).map fun i => a + (i : Nat)
theorem rg_at {a : Addr} {x y : Int} : upd H a (.lst (rgV x y)) a = some (.lst ((rgI x y).map V.int)) := by
  rw [upd_same]
  unfold rgV rgI
  rw [List.map_map]
  rfl
theorem rgI_mem {n y : Int} (h : y ∈ rgI 0 n) : 0 ≤ y ∧ y < n := by
  obtain ⟨j, hj, rfl⟩ := List.mem_map.mp h
  have := List.mem_range.mp hj
  omega
theorem rgI_rng {a b y : Int} (h : y ∈ rgI a b) : a ≤ y ∧ y < b := by
  obtain ⟨j, hj, rfl⟩ := List.mem_map.mp h
  have := List.mem_range.mp hj
  omega
theorem cat_at {a : Addr} {xs ys : List Int} : upd H a (.lst (xs.map V.int ++ ys.map V.int)) a = some (.lst ((xs ++ ys).map V.int)) := by
  rw [upd_same, List.map_append]
theorem szc {xs ys : List Int} {n : Nat} (h : xs.length + ys.length ≤ n) (hn : n ≤ sizeLine) : (xs.map V.int).length + (ys.map V.int).length ≤ sizeLine := by
  rw [List.length_map, List.length_map]; omega
/-! an if whose two ways meet again in one state -/
theorem join {tc : TT} {t1 t2 u : TS} {D : Ends} {σ : L2.St} {H : Hp} (Pv : L2.St → Hp → Prop) (h1 : ∀ N : L2.St → Hp → Prop, (∀ σ2 H2, Pv σ2 H2 → N σ2 H2) → tIfS tc t1 t2 { D with nx := N } σ H) (h2 : ∀ σ2 H2, Pv σ2 H2 → u D σ2 H2) : tSeq (tIfS tc t1 t2) u D σ H := h1 _ h2
theorem setc {i : Nat} {te : TE} {u : TS} {D : Ends} {σ : L2.St} {H : Hp} (v : V) (h : u D (σ.set i (some v)) H) (e : ∀ Q : VK, Q v H → te σ H Q := by exact fun _ z => z) : tSeq (tAsg te (gName i)) u D σ H := e _ h
theorem gnm {i : Nat} {v : V} {σ : L2.St} {H : Hp} {N bk ct : L2.St → Hp → Prop} {rt : VK} (h : N (σ.set i (some v)) H) : gName i v σ H (Ends.nx ⟨N, rt, bk, ct⟩) := h
theorem gnmS {i : Nat} {v : V} {σ σ' : L2.St} {H : Hp} {N bk ct : L2.St → Hp → Prop} {rt : VK} (e : σ.set i (some v) = σ') (h : N σ' H) : gName i v σ H (Ends.nx ⟨N, rt, bk, ct⟩) := by subst e; exact h
theorem tnx {σ : L2.St} {H : Hp} {N bk ct : L2.St → Hp → Prop} {rt : VK} (h : N σ H) : tNext ⟨N, rt, bk, ct⟩ σ H := h
theorem joinL {tc : TT} {t1 t2 : TS} {D : Ends} {σ : L2.St} {H : Hp} (Pv : L2.St → Hp → Prop) (h1 : ∀ N : L2.St → Hp → Prop, (∀ σ2 H2, Pv σ2 H2 → N σ2 H2) → tIfS tc t1 t2 { D with nx := N } σ H) (h2 : ∀ σ2 H2, Pv σ2 H2 → D.nx σ2 H2) : tIfS tc t1 t2 D σ H := h1 _ h2
/-! a for over a written list, turn by turn -/
def unr (K : PySem.W.Frag) (a : Addr) (xs : List V) (g : TG) (tb : TS) (D : Ends) : List V → L2.St → Hp → Prop
  | [], σ, H => SqL K H a xs ∧ D.nx σ H
  | x :: r, σ, H => SqL K H a xs ∧ g x σ H fun σ2 H2 => tb { D with nx := unr K a xs g tb D r, ct := unr K a xs g tb D r, bk := D.nx } σ2 H2
theorem un_start {xs : List V} {g : TG} {tb : TS} {D : Ends} {σ : L2.St} (h : unr K a xs g tb D xs σ H) :
    ∃ W : Nat → Nat → L2.St → Hp → Prop, (∃ m, W 0 m σ H) ∧ ∀ i m σ H, W i m σ H →
      ((Itl K a).stop i H ∧ D.nx σ H) ∨ ((Itl K a).go i H ∧ ∃ N : L2.St → Hp → Prop, (∀ σ' H', N σ' H' → ∃ m', m' < m ∧ W (i + 1) m' σ' H') ∧ ∀ x H', (Itl K a).yld i H x H' → g x σ H' fun σ2 H2 => tb { D with nx := N, ct := N, bk := D.nx } σ2 H2) := by
  refine ⟨fun i m σ H => m = xs.length - i ∧ i ≤ xs.length ∧ unr K a xs g tb D (xs.drop i) σ H, ⟨xs.length, by simp, Nat.zero_le _, h⟩, ?_⟩
  rintro i m σ H ⟨rfl, hi, p⟩
  by_cases hlt : i < xs.length
  · rw [List.drop_eq_getElem_cons hlt] at p
    obtain ⟨q, p⟩ := p
    refine .inr ⟨⟨xs, xs[i], q, by simp [hlt]⟩, unr K a xs g tb D (xs.drop (i + 1)), fun σ' H' p' => ⟨xs.length - (i + 1), by omega, rfl, hlt, p'⟩, fun x H' y => ?_⟩
    obtain ⟨e, y⟩ := y
    subst e
    have e2 := y xs q
    rw [List.getElem?_eq_getElem hlt] at e2
    cases e2
    exact p
  · have e : i = xs.length := by omega
    subst e
    rw [List.drop_length] at p
    obtain ⟨q, p⟩ := p
    exact .inl ⟨⟨xs, q, Nat.le_refl _⟩, p⟩
end
/-! a comprehension over a written list, turn by turn -/
def unlc (K : PySem.W.Frag) (a : Addr) (xs : List V) (g : TG) (tt : TT) (te : TE) (σ : L2.St) (vs : List Nat) (D : Addr) (Qd : Hp → Prop) : List V → Hp → Prop
  | [], H => SqL K H a xs ∧ Qd H
  | x :: r, H => SqL K H a xs ∧ g x (wipe σ vs) H fun σ2 H2 => wipe σ2 vs = wipe σ vs ∧ tt σ2 H2 fun b H3 =>
      if b = true then te σ2 H3 fun y H4 => ∃ acc, H4 D = some (.lst acc) ∧ acc.length < sizeLine ∧ unlc K a xs g tt te σ vs D Qd r (upd H4 D (.lst (acc ++ [y]))) else unlc K a xs g tt te σ vs D Qd r H3
theorem unlc_start {K : PySem.W.Frag} {a : Addr} {xs : List V} {g : TG} {tt : TT} {te : TE} {σ : L2.St} {vs : List Nat} {H1 : Hp} {D : Addr} {Qd : Hp → Prop} (h : unlc K a xs g tt te σ vs D Qd xs (upd H1 D (.lst []))) :
    ∃ W : Nat → Nat → Hp → Prop, (∃ m, W 0 m (upd H1 D (.lst []))) ∧ ∀ i m H, W i m H →
      ((Itl K a).stop i H ∧ Qd H) ∨ ((Itl K a).go i H ∧ ∃ Nx : Hp → Prop, (∀ H', Nx H' → ∃ m', m' < m ∧ W (i + 1) m' H') ∧ ∀ x H', (Itl K a).yld i H x H' → g x (wipe σ vs) H' fun σ2 H2 => wipe σ2 vs = wipe σ vs ∧ tt σ2 H2 fun b H3 =>
        if b = true then te σ2 H3 fun y H4 => ∃ acc, H4 D = some (.lst acc) ∧ acc.length < sizeLine ∧ Nx (upd H4 D (.lst (acc ++ [y]))) else Nx H3) := by
  refine ⟨fun i m H => m = xs.length - i ∧ i ≤ xs.length ∧ unlc K a xs g tt te σ vs D Qd (xs.drop i) H, ⟨xs.length, by simp, Nat.zero_le _, h⟩, ?_⟩
  rintro i m H ⟨rfl, hi, p⟩
  by_cases hlt : i < xs.length
  · rw [List.drop_eq_getElem_cons hlt] at p
    obtain ⟨q, p⟩ := p
    refine .inr ⟨⟨xs, xs[i], q, by simp [hlt]⟩, unlc K a xs g tt te σ vs D Qd (xs.drop (i + 1)), fun H' p' => ⟨xs.length - (i + 1), by omega, rfl, hlt, p'⟩, fun x H' y => ?_⟩
    obtain ⟨e, y⟩ := y
    subst e
    have e2 := y xs q
    rw [List.getElem?_eq_getElem hlt] at e2
    cases e2
    exact p
  · have e : i = xs.length := by omega
    subst e
    rw [List.drop_length] at p
    obtain ⟨q, p⟩ := p
    exact .inl ⟨⟨xs, q, Nat.le_refl _⟩, p⟩
/-- a def that stands behind the top -/
structure Dk (K : PySem.W.Frag) (mg : Str → Option Value) (x qual : Str) (st : Stmt) (ps : List Str) : Type where
  f : Addr
  fd : FuncData
  F : Fun K x qual st f fd
  b : Binds K fd ps []
  m : mg x = some (.ref f)
end Ow

namespace Ow
open PySem L2

section
variable {X : Cx} {e : Expr} {es : List Expr} {ta : TA} {b : Str} {B : Addr} {mc : Value} {p1 p2 pos : Pos}
open PyProof.Rows PySem.Spec in
/-- B.__init__(self, ..), B an own class whose __init__ is ValueError's -/
theorem pe_winit {pl : Sem Bool} (hg : Gl X b) (hm : X.mg b = some (.ref B)) (rd : ClX.CRead X.K B mc) (cv : PySem.W.findCls X.K (.ref B) mc "__init__" = some (.val (.builtin "ValueError.__init__"))) (ha : PA X (e :: es) ta)
    (hdb : (b == ("__debug__" : Str)) = false := by decide)
    (hc : eval (.Call (.Attribute (.Name b p1) "__init__" p2) (e :: es) [] pos) X.env = (do
      let ov ← eval (.Name b p1) X.env
      standAt p2.atName
      let (f, first) ← holding [ov] (getMethod ov "__init__" pl)
      callWith pos f first (backTo pos (starEach (e :: es) X.env)) (backToKw pos (keywordEach [] X.env))) := by rfl)
    (he : starEach (e :: es) X.env = (false, eval e X.env) :: starEach es X.env := by rfl) (hpl : (backTo pos (starEach es X.env)).any (·.1) = false := by rfl) :
    PE X (.Call (.Attribute (.Name b p1) "__init__" p2) (e :: es) [] pos) (tVeI X.K ta) := by
  refine ⟨fun pins s σ H Q I h => ?_⟩
  refine PySem.W.methodCall_KW (ld_glob I hg hm ?_ hdb) hc
  refine PySem.W.method_cls I.kIn rd.ga (PySem.W.cls_value I.kIn rd.rd cv (by decide +kernel) ?_)
  show wpAny _ _ (callWith pos (Value.builtin "ValueError.__init__") [] (backTo pos (starEach (e :: es) X.env)) []) _ _ _
  refine PyProof.Rows.callWith_method1 (thn (ha.run pos pins _ σ H _ (I.tok _) h) fun us s1 ⟨vs, H1, I1, r1, a, C, ws, ev, hl, T, ea, q⟩ => ?_) he hpl
  subst ev
  cases r1 with
  | @cons _ u0 _ ur ra rw' =>
    obtain rfl : u0 = Value.ref a := ra
    have hlen : ur.length ≤ sizeLine := by
      rw [← Paired.length rw', sizeLine_eq]
      omega
    exact oinit_ok T I1 ea hlen fun s' J => ⟨.non, H1, J, rfl, q⟩
/-- C(), C's own __init__ keeping sp, no field stored -/
def tMkN (C : Addr) (sp : Sp) : L2.St → Hp → XK → Prop := fun σ H1 Q => ∀ a, H1 a = none → sp [.ref a] (upd H1 a (exo a C none))
  (fun v H2 => v = .non ∧ H2 a = some (exo a C none) ∧ Q (.ref C) none (del H2 a)) (fun _ _ _ => False)
open PyProof.Rows PySem.Spec in
theorem mk_endN {pins : List (Addr × Obj)} {σ : L2.St} {H1 H2 : Hp} {hp hp2 h2 : Heap} {g1 g2 : Array GenState} {d1 d2 : Drawn} {t1 t2 : Nat} {os1 os2 : OsState} {a C : Addr} (I1 : L2.Inv X pins σ H1 ⟨hp, g1, d1, t1, os1⟩)
    (ha : hp.objs.size ≤ a) (k : ∀ b o, hp.get? b = some o → hp2.get? b = some o) (un : Un (frs X.stack) [] (upd H1 a (exo a C none)) H2 hp2 h2) (hok : HOk X.prog X.w H2 h2) (ho : os2 = os1) (hb : AllBare g2)
    (ea : H2 a = some (exo a C none)) :
    ∃ (t0 : Addr) (G : Heap), L2.Inv X pins σ (del H2 a) ⟨G, g2, d2, t2, os2⟩ ∧ (∀ b o, G.get? b = some o → h2.get? b = some o) ∧ G.get? a = none ∧
      h2.get? a = some ({ cls := .ref C, dict := none, data := .fields #[.ref t0, .none, .none, .none, .bool false, .none] } : Obj) ∧ (del H2 a) a = none := by
  obtain ⟨t0, hoe⟩ := exo_at hok ea
  have hn : H1 a = none := I1.hok.fresh ha
  obtain ⟨G, g1', g2'⟩ := restrict h2 fun b => decide (b ≠ a)
  have gk : ∀ b, b ≠ a → G.get? b = h2.get? b := fun b hb => g1' b (decide_eq_true hb)
  have ge : G.get? a = none := g2' a (by simp)
  have nha : ∀ {b : Addr} {o : Obj}, hp.get? b = some o → b ≠ a := fun {b o} z => Nat.ne_of_lt (Nat.lt_of_lt_of_le (Heap.lt_size z) ha)
  have up : ∀ {b : Addr}, b ≠ a → H1 b = none → upd H1 a (exo a C none) b = none := fun {b} hb n => by rw [upd_ne hb]; exact n
  have U : Un (frs X.stack) [] H1 (del H2 a) hp G := {
    keep := fun b o z n hf hx => by
      rw [gk b (nha z)]
      exact un.keep b o (k b o z) (up (nha z) n) hf hx
    slot := fun b o z n hf hx => by
      rw [gk b (nha z)]
      exact un.slot b o (k b o z) (up (nha z) n) hf hx
    free := fun b o z n hx => by
      rw [del_ne (nha z)]
      exact un.free b o (k b o z) (up (nha z) n) hx
    there := fun b o z hx => by
      rw [gk b (nha z)]
      exact un.there b o (k b o z) hx
    tups := fun b xs z => by
      rw [del_ne (ne_of_none z hn)]
      exact un.tups b xs (by rw [upd_ne (ne_of_none z hn)]; exact z)
    frzs := fun b o v z => by
      rw [del_ne (ne_of_none z hn)]
      exact un.frzs b o v (by rw [upd_ne (ne_of_none z hn)]; exact z)
    tbls := fun b ps z => by
      rw [del_ne (ne_of_none z hn)]
      exact un.tbls b ps (by rw [upd_ne (ne_of_none z hn)]; exact z) }
  have hok3 : HOk X.prog X.w (del H2 a) G := fun b o z => by
    have hba : b ≠ a := fun e => by
      rw [e, del_same] at z
      cases z
    rw [del_ne hba] at z
    have noa : ∀ {c : Addr}, H2 c = some (.own b) → c ≠ a := fun {c} hc => at_ne ea hc exo_own
    exact (hok b o z).stay (fun c v hc y => by
        have hca : c ≠ a := by
          rcases hc with hc | hc
          · rw [hc]
            exact hba
          · exact noa hc
        rw [gk c hca]
        exact y)
      (fun c hc => by rw [del_ne (noa hc)]; exact hc) (fun c xs hc => by rw [del_ne (at_ne ea hc exo_tup)]; exact hc)
  have J : L2.Inv X pins σ (del H2 a) ⟨G, g2, d2, t2, os2⟩ := I1.call' (ch := []) ho U hok3 hb (fun b z => absurd z (by simp))
  refine ⟨t0, G, J, fun b o z => ?_, ge, hoe, del_same⟩
  by_cases hba : b = a
  · rw [hba, ge] at z
    cases z
  · exact (gk b hba).symm.trans z
open PyProof.Rows PySem.Spec in
theorem pmk_oexN {CX : CXT} {x : Str} {C fI : Addr} {k : Nat} {fd : FuncData} {ps : List Str} {sp : Sp} {p : Pos} (T : OexC X.K C) (iC : PySem.W.findIn X.K (.ref C) "__init__" = some (some (.ref fI))) (tI : PySem.W.typeIn X.K (.ref fI) = some (.type "function"))
    (F1 : FnOk X.prog X.w X.K X.mg X.base CX k fI fd ps sp) (hr : Room (k + 1) X.A) (hb : Binds X.K fd ps []) (hx : Passes CX X (fun _ _ _ => False)) (hg : Gl X x) (hm : X.mg x = some (.ref C))
    (hdb : (x == ("__debug__" : Str)) = false := by decide) :
    PMk X (.Call (.Name x p) [] [] pos) (tMkN C sp) := by
  intro pins s σ H Q I q1
  obtain ⟨nm, q, N, bs, bm, sn, sub, ab, col, dd, k0, k1, k2, k3, k5, hC, hbm⟩ := T.cls
  refine wpAny_Call_Name_kw (ld_glob I hg hm ?_ hdb)
  refine PySem.W.callWith_K0 I.kIn T.kC ?_
  show wpAny _ _ (call (.ref C) []) _ _ _
  obtain ⟨hp, g, dr, tk, os⟩ := s
  have hsz : hp.objs.size ≤ hp.objs.size + 1 := Nat.le_succ _
  have hn : H (hp.objs.size + 1) = none := I.hok.fresh hsz
  have hq := q1 (hp.objs.size + 1) hn
  have kk : ∀ b o, hp.get? b = some o → ((hp.push (PySem.W.kdv_tup [])).push (PySem.HandSPX.excO C hp.objs.size)).get? b = some o := fun b o e => Heap.get?_push_of_some _ (Heap.get?_push_of_some _ e)
  have hget : ((hp.push (PySem.W.kdv_tup [])).push (PySem.HandSPX.excO C hp.objs.size)).get? (hp.objs.size + 1) = some (PySem.HandSPX.excO C hp.objs.size) := by heap_get
  have I2 : L2.Inv X pins σ (upd H (hp.objs.size + 1) (exo (hp.objs.size + 1) C none)) ⟨(hp.push (PySem.W.kdv_tup [])).push (PySem.HandSPX.excO C hp.objs.size), g, dr, tk, os⟩ :=
    I.laid (t' := tk) (a := hp.objs.size + 1) (o := exo (hp.objs.size + 1) C none) (h' := (hp.push (PySem.W.kdv_tup [])).push (PySem.HandSPX.excO C hp.objs.size)) kk hsz (exo_ok hget)
  have r2 : Vals [V.ref (hp.objs.size + 1)] [Value.ref (hp.objs.size + 1)] := .cons rfl .nil
  have hl : ([Value.ref (hp.objs.size + 1)] : List Value).length = ps.length := by
    have e := r2.length
    rw [F1.len _ _ _ _ hq] at e
    exact e.symm
  refine wpAny_call (PySem.HandSPX.call_own F.excBase_ValueError (fun Y => PySem.HandSPX.refsVE_contains Y bm hbm) (I.kIn _ _ hC) (PySem.W.looks_findIn I.kIn iC) (fun self => PySem.W.bind_fn I.kIn self tI) (by simp)
    (codeAny_mono (F1.run _ X.stack _ _ ⟨[Value.ref (hp.objs.size + 1)], []⟩ ([Value.ref (hp.objs.size + 1)] ++ []) _ _ (fun _ _ _ => False) (hr.make C [] []) (I2.env0.make C [] []) (hb _ [Value.ref (hp.objs.size + 1)] I2.kIn hl) (r2.append .nil) hq) fun r s' hq' => ?_))
  cases r with
  | error er => exact hx pins σ _ _ er s' I2 hq'
  | ok fl =>
    cases fl with
    | ret u =>
      obtain ⟨v, H2, os2, bare2, un2, hok2, rv, ev, ea, q2⟩ := hq'
      subst ev
      obtain ⟨h2, g2, d2, t2, os'⟩ := s'
      refine ⟨rv, ?_⟩
      obtain ⟨t0, G, J, kG, ge, hoe, na⟩ := mk_endN (d2 := d2) (t2 := t2) I hsz kk un2 hok2 os2 bare2 ea
      exact ⟨hp.objs.size + 1, _, _, ⟨G, g2, d2, t2, os'⟩, _, .ref C, none, rfl, J, kG, ge, hoe, ⟨rfl, rfl⟩, rfl, rfl, na, rfl, bare2, raises_own T.exC T.tyC, q2⟩
    | next => exact False.elim hq'
    | brk => exact False.elim hq'
    | cont => exact False.elim hq'
end

theorem del_upd {H : Hp} {a : Addr} {o : HO} (h : H a = none) : del (upd H a o) a = H := by
  funext b
  by_cases hb : b = a
  · rw [hb, del_same, h]
  · rw [del_ne hb, upd_ne hb]
/-- isinstance of what the suite holds -/
theorem call_isE2 {X : Cx} {a : Addr} {oe : Obj} {cls : Value} {d : Option Addr} {pn : List (Addr × Obj)} (hz : Zc cls d oe) (hf : ∃ vs, oe.data = .fields vs) :
    CallR (X.suite a ((a, oe) :: pn)) (.builtin "isinstance") (fun xs H Q => ∃ (D C : Addr) (b : Bool), cls = .ref D ∧ d = none ∧ ExcC X.K D ∧ xs = [.ref a, .ref C] ∧ PySem.W.kitOne X.K (.ref D) (.ref C) = some b ∧ Q (.bl b) H) := by
  intro pins s σ H xs us Q I r h
  obtain ⟨D, C, b, rfl, rfl, E, rfl, hk, q⟩ := h
  exact call_isE E hz hf pins s σ H _ us Q I r ⟨.ref C, .ref C, b, rfl, fun u h => h, hk, q⟩
/-- isinstance of what the suite holds, a built-in class -/
theorem call_isET {X : Cx} {a : Addr} {oe : Obj} {cls : Value} {d : Option Addr} {pn : List (Addr × Obj)} (hz : Zc cls d oe) (hf : ∃ vs, oe.data = .fields vs) :
    CallR (X.suite a ((a, oe) :: pn)) (.builtin "isinstance") (fun xs H Q => ∃ (D : Addr) (n : String) (b : Bool), cls = .ref D ∧ d = none ∧ ExcC X.K D ∧ xs = [.ref a, .ty n] ∧ PySem.W.kitOne X.K (.ref D) (.type n) = some b ∧ Q (.bl b) H) := by
  intro pins s σ H xs us Q I r h
  obtain ⟨D, n, b, rfl, rfl, E, rfl, hk, q⟩ := h
  exact call_isE E hz hf pins s σ H _ us Q I r ⟨.ty n, .type n, b, rfl, fun u h => h, hk, q⟩
theorem kit_tyE {K : PySem.W.Frag} {D : Addr} {n : String} {b : Bool} (h1 : PySem.W.kitMeta n = true) (h4 : PySem.W.subIn K (.ref D) (.type n) = some b) : PySem.W.kitOne K (.ref D) (.type n) = some b := by
  unfold PySem.W.kitOne PySem.W.kitCls
  rw [if_neg (by intro h; cases h)]
  dsimp only
  rw [if_pos h1]
  exact h4
structure Xc (K : PySem.W.Frag) (mg : Str → Option Value) (x : Str) : Type where
  C : Addr
  m : mg x = some (.ref C)
  oex : OexC K C
  ex : ExcC K C
structure Bc (K : PySem.W.Frag) (mg : Str → Option Value) (x : Str) : Type where
  C : Addr
  m : mg x = some (.ref C)
  mc : Value
  rd : ClX.CRead K C mc
  cv : PySem.W.findCls K (.ref C) mc "__init__" = some (.val (.builtin "ValueError.__init__"))
structure Xi (K : PySem.W.Frag) (C : Addr) (qual : Str) (st : Stmt) (ps : List Str) : Type where
  f : Addr
  fd : FuncData
  F : Fun K "__init__" qual st f fd
  b : Binds K fd ps []
  iC : PySem.W.findIn K (.ref C) "__init__" = some (some (.ref f))
  tI : PySem.W.typeIn K (.ref f) = some (.type "function")

theorem kit_self {K : PySem.W.Frag} {t : Value} : PySem.W.kitOne K t t = some true := by
  unfold PySem.W.kitOne; rw [if_pos (beq_self_eq_true _)]
theorem kit_sub {K : PySem.W.Frag} {t : Value} {C : Addr} {b : Bool} (ne : (t == Value.ref C) = false) (h2 : PySem.W.isClsIn K C = true) (h3 : PySem.W.typeIn K (.ref C) = some (.type "type")) (h4 : PySem.W.subIn K t (.ref C) = some b) : PySem.W.kitOne K t (.ref C) = some b := by
  unfold PySem.W.kitOne PySem.W.kitCls
  have h2' : (PySem.W.clsIn K C).isSome = true := h2
  rw [if_neg (by rw [ne]; decide)]
  dsimp only
  rw [if_pos (by rw [h2', h3]; rfl)]
  exact h4

/-- C() of a class without any __init__ -/
structure Mk0 (K : PySem.W.Frag) (C : Addr) : Prop where
  makes : PySem.W.makesIn K C = true
  init : PySem.W.findIn K (.ref C) "__init__" = some (some (.builtin "object.__init__"))
  top : PySem.W.mroIn K C (.type "object") = some true
  kp : PySem.W.keepIn K (.ref C) = true
section
variable {X : Cx} {C : Addr} {x : Str} {p pos : Pos}
open PySem.W PySem.Calls PyProof.Rows NwA in
theorem run_make00 {pins : List (Addr × Obj)} {σ : L2.St} {H : Hp} {s : Shared} {Q : VK} (M : Mk0 X.K C) (I : L2.Inv X pins σ H s)
    (h : ∀ x dx, H x = Option.none → H dx = Option.none → dx ≠ x → Q (.ref x) (upd (upd H dx (.own x)) x (.ins C dx []))) : wpAny (model X.prog X.w) X.A (PySem.call (.ref C) []) (EP X pins σ Q) X.xe s := by
  have hq := h (s.heap.objs.size + 1) s.heap.objs.size (I.hok.fresh (Nat.le_succ _)) (I.hok.fresh (Nat.le_refl _)) (Nat.ne_of_lt (Nat.lt_succ_self _))
  have I2 := Inv.made (C := C) I
  refine wpAny_call (make_map0 I.kIn M.makes M.init (fun self => Looks.of_pure (oi_bind _)) ?_)
  have ho : ((s.heap.push PySem.W.emptyDict).push (PySem.W.instObj C s.heap.objs.size)).get? (s.heap.objs.size + 1) = some (PySem.W.instObj C s.heap.objs.size) := by
    have := Heap.get?_push_size (s.heap.push PySem.W.emptyDict) (o := PySem.W.instObj C s.heap.objs.size) rfl
    rwa [Heap.size_push] at this
  have t1 : Looks (model X.prog X.w) ((s.heap.push PySem.W.emptyDict).push (PySem.W.instObj C s.heap.objs.size)) (typeOf (.ref (s.heap.objs.size + 1))) (.ref C) := type_at ho rfl
  have t2 : Looks (model X.prog X.w) ((s.heap.push PySem.W.emptyDict).push (PySem.W.instObj C s.heap.objs.size)) (isInstance (.ref (s.heap.objs.size + 1)) (.type "object")) true := t1.andThen (looks_mroIn I2.kIn M.top)
  refine codeAny_call_builtin oi_plain entry_oi (@check_slot _ _ _ _ "object.__init__" "object" "__init__" (.ref (s.heap.objs.size + 1)) [] [] _ oi_kind oi_split t2 (oi_args_any _ [] []) ?_)
  rw [oi_run]
  exact wpAny_pure ⟨rfl, ⟨V.ref (s.heap.objs.size + 1), _, I2, rfl, hq⟩⟩
def tMake00 (C : Addr) : TE := fun _ H Q => ∀ x dx, H x = none → H dx = none → dx ≠ x → Q (.ref x) (upd (upd H dx (.own x)) x (.ins C dx []))
theorem pe_make00 (M : Mk0 X.K C) (hg : Gl X x) (hm : X.mg x = some (.ref C)) (hdb : (x == ("__debug__" : Str)) = false := by decide) : PE X (.Call (.Name x p) [] [] pos) (tMake00 C) := by
  refine ⟨fun pins s σ H Q I h => ?_⟩
  refine wpAny_Call_Name_kw (ld_glob I hg hm ?_ hdb)
  exact PySem.W.callWith_K0 I.kIn M.kp (run_make00 M I h)
/-- one of two readings -/
theorem pe_alt {e : Expr} {t u : TE} (h1 : PE X e t) (h2 : PE X e u) : PE X e (fun σ H Q => t σ H Q ∨ u σ H Q) :=
  ⟨fun pins s σ H Q I h => h.elim (h1.run pins s σ H Q I) (h2.run pins s σ H Q I)⟩
end

theorem free2 {H : Hp} {dx x : Addr} {o : HO} (hne : dx ≠ x) (hx : H x = none) : upd H dx o x = none := by rw [upd_ne (fun z => hne z.symm)]; exact hx
/-- a method of one of several classes -/
def MAlt (X : Cx) (CX : CXT) (m : Str) (C : Addr) (sp : Sp) : Prop :=
  ∃ f fd ps k, Cls X.K C ∧ Meth X.K C m f ∧ FnOk X.prog X.w X.K X.mg X.base CX k f fd ps sp ∧ Room k X.A ∧ Binds X.K fd ps []
def tMethA (R : Addr → Sp → Prop) (m : Str) (E : XK) (ta : TE) (t : TA) : TE := fun σ H Q => ta σ H fun x H1 => ∃ a dx fs C sp, x = .ref a ∧ R C sp ∧ H1 a = some (.ins C dx fs) ∧ fs.lookup m = none ∧ t σ H1 fun vs H2 => sp (.ref a :: vs) H2 Q E
section
variable {X : Cx} {CX : CXT} {E : XK} {R : Addr → Sp → Prop} {o e : Expr} {es : List Expr} {m : Str} {apos pos : Pos} {ta : TE} {t : TA}
theorem pe_methA {pl : Sem Bool} (he : PE X o ta) (hall : ∀ C sp, R C sp → MAlt X CX m C sp) (hx : Passes CX X E) (ha : PA X (e :: es) t)
    (hst : starEach (e :: es) X.env = (false, eval e X.env) :: starEach es X.env := by rfl) (hpl : (backTo pos (starEach es X.env)).any (·.1) = false := by rfl)
    (ht : eval (.Call (.Attribute o m apos) (e :: es) [] pos) X.env = (do
      let ov ← eval o X.env
      standAt apos.atName
      let (f, first) ← holding [ov] (getMethod ov m pl)
      callWith pos f first (backTo pos (starEach (e :: es) X.env)) (backToKw pos (keywordEach [] X.env))) := by rfl) :
    PE X (.Call (.Attribute o m apos) (e :: es) [] pos) (tMethA R m E ta t) := by
  refine ⟨fun pins s σ H Q I h => ?_⟩
  refine PySem.W.methodCall_KW (pl := pl) (thn (he.run pins s σ H _ I h) fun u s1 ⟨x, H1, I1, rx, a, dx, fs, C, sp, ex, hr, ea, l, q⟩ => ?_) ht
  obtain ⟨f, fd, ps, k, c, hm, F, hr, hb⟩ := hall C sp hr
  subst ex
  obtain rfl : u = Value.ref a := rx
  refine getmeth_ok I1 ea c hm l ?_
  refine PySem.W.callWith_K (first := [.ref a]) (h₀ := X.base) I.ok.mod.kin hm.kp (thn (ha.run pos pins s1 σ H1 _ I1 q) fun us s2 ⟨vs, H2, I2, r, q2⟩ => ⟨I2.kIn, ?_⟩) hst hpl
  exact run_fn (us := .ref a :: us) (vs := .ref a :: vs) F hr hb .nil hx I2 (.cons rfl r) (by rw [List.append_nil]; exact q2)
theorem pe_methA0 {pl : Sem Bool} (he : PE X o ta) (hall : ∀ C sp, R C sp → MAlt X CX m C sp) (hx : Passes CX X E)
    (ht : eval (.Call (.Attribute o m apos) [] [] pos) X.env = (do
      let ov ← eval o X.env
      standAt apos.atName
      let (f, first) ← holding [ov] (getMethod ov m pl)
      callWith pos f first (backTo pos (starEach [] X.env)) (backToKw pos (keywordEach [] X.env))) := by rfl) :
    PE X (.Call (.Attribute o m apos) [] [] pos) (tMethA R m E ta tNil) := by
  refine ⟨fun pins s σ H Q I h => ?_⟩
  refine PySem.W.methodCall_KW (pl := pl) (thn (he.run pins s σ H _ I h) fun u s1 ⟨x, H1, I1, rx, a, dx, fs, C, sp, ex, hr, ea, l, q⟩ => ?_) ht
  obtain ⟨f, fd, ps, k, c, hm, F, hr, hb⟩ := hall C sp hr
  subst ex
  obtain rfl : u = Value.ref a := rx
  refine getmeth_ok I1 ea c hm l ?_
  exact PySem.W.callWith_K0 (first := [.ref a]) I1.kIn hm.kp (run_fn (us := [.ref a]) (vs := [.ref a]) F hr hb .nil hx I1 (.cons rfl .nil) q)
end
theorem mal_one {X : Cx} {CX : CXT} {m : Str} {C0 : Addr} {sp0 : Sp} (h : MAlt X CX m C0 sp0) : ∀ C sp, (C = C0 ∧ sp = sp0) → MAlt X CX m C sp := by
  rintro _ _ ⟨rfl, rfl⟩; exact h
theorem mal_or {X : Cx} {CX : CXT} {m : Str} {R1 R2 : Addr → Sp → Prop} (h1 : ∀ C sp, R1 C sp → MAlt X CX m C sp) (h2 : ∀ C sp, R2 C sp → MAlt X CX m C sp) : ∀ C sp, (R1 C sp ∨ R2 C sp) → MAlt X CX m C sp :=
  fun C sp h => h.elim (h1 C sp) (h2 C sp)
/-- a class of the text whose instances are made -/
structure Kc (K : PySem.W.Frag) (mg : Str → Option Value) (x : Str) : Type where
  C : Addr
  m : mg x = some (.ref C)
  cl : Cls K C
structure Dm (K : PySem.W.Frag) (x qual : Str) (st : Stmt) (ps : List Str) : Type where
  f : Addr
  fd : FuncData
  F : Fun K x qual st f fd
  b : Binds K fd ps []
/-! ### C.f(self, ..), a def of an own class called by the class's name -/
section
variable {X : Cx} {CX : CXT} {k : Nat} {f B : Addr} {fd : FuncData} {ps : List Str} {sp : Sp} {E : XK} {b m : Str} {mc : Value} {p1 p2 pos : Pos} {e : Expr} {es : List Expr} {t : TA}
open PyProof.Rows PySem.Spec in
theorem pe_cdef {pl : Sem Bool} (hg : Gl X b) (hm : X.mg b = some (.ref B)) (rd : ClX.CRead X.K B mc) (cv : PySem.W.findCls X.K (.ref B) mc m = some (.val (.ref f))) (hk : PySem.W.keepIn X.K (.ref f) = true)
    (F : FnOk X.prog X.w X.K X.mg X.base CX k f fd ps sp) (hr : Room k X.A) (hb : Binds X.K fd ps []) (hx : Passes CX X E) (ha : PA X (e :: es) t)
    (hdb : (b == ("__debug__" : Str)) = false := by decide)
    (hc : eval (.Call (.Attribute (.Name b p1) m p2) (e :: es) [] pos) X.env = (do
      let ov ← eval (.Name b p1) X.env
      standAt p2.atName
      let (f, first) ← holding [ov] (getMethod ov m pl)
      callWith pos f first (backTo pos (starEach (e :: es) X.env)) (backToKw pos (keywordEach [] X.env))) := by rfl)
    (he : starEach (e :: es) X.env = (false, eval e X.env) :: starEach es X.env := by rfl) (hpl : (backTo pos (starEach es X.env)).any (·.1) = false := by rfl) :
    PE X (.Call (.Attribute (.Name b p1) m p2) (e :: es) [] pos) (tCall sp [] E t) := by
  refine ⟨fun pins s σ H Q I h => ?_⟩
  refine PySem.W.methodCall_KW (ld_glob I hg hm ?_ hdb) hc
  refine PySem.W.method_cls I.kIn rd.ga (PySem.W.cls_value I.kIn rd.rd cv rfl ?_)
  refine PySem.W.callWith_K (first := []) (h₀ := X.base) I.ok.mod.kin hk (thn (ha.run pos pins _ σ H _ (I.tok _) h) fun us s1 ⟨vs, H1, I1, r, q⟩ => ⟨I1.kIn, ?_⟩) he hpl
  exact run_fn F hr hb .nil hx I1 r q
end
/-- what C.f needs of C -/
structure Cc (K : PySem.W.Frag) (C : Addr) (m : Str) (f : Addr) : Type where
  mc : Value
  rd : ClX.CRead K C mc
  cv : PySem.W.findCls K (.ref C) mc m = some (.val (.ref f))

/-- isinstance of an instance of an own class -/
structure Ic (K : PySem.W.Frag) (C : Addr) : Prop where
  ha : PySem.W.findIn K (.ref C) "__class__" = some (some (.builtin "object.__class__"))
  hn : PySem.W.specialIn K (.builtin "object.__class__") "__get__" = some (some (.builtin "getset_descriptor.__get__"))
  ht : PySem.W.takesIn K (.builtin "object.__class__") = some true
  hm : PySem.W.mroIn K C (.type "object") = some true
theorem tyIns {K : PySem.W.Frag} {H : Hp} {a C dx : Addr} {fs : List (Str × V)} (cl : Cls K C) (i : Ic K C) (e : H a = some (.ins C dx fs)) : TyX K H (.ref a) (.ref C) := .base (.ins e cl i.ha i.hn i.ht i.hm)

end Ow
namespace Ow
open PySem L2
local macro_rules | `(tactic| walk_at "o2") => `(tactic| first | with_reducible assumption | exact Ow.divw64 (by omega) (by omega) | exact Ow.mul0 ⟨by omega, by omega⟩ | exact Ow.mul1 ⟨by omega, by omega⟩ | exact Ow.shl0 (by omega) (by omega) (by omega) | exact ⟨by omega, by omega⟩ | exact ⟨by omega, by omega, by omega⟩ | omega | (simp only [List.length_append, List.length_cons, List.length_nil]; omega) | (subst_vars; omega) | assumption | exact Ow.divW (by omega) (by omega) | exact Ow.mulW ⟨by omega, by omega⟩ ⟨by omega, by omega⟩ | exact Ow.shlW (by omega) (by omega) ⟨by omega, by omega⟩)
local macro_rules | `(tactic| walk_at "ob") => `(tactic| first | assumption | omega | exact ⟨by omega, by omega⟩ | exact ⟨by omega, by omega, by omega⟩ | exact Ow.divw64 (by omega) (by omega) | exact Or.inl ⟨by omega, by omega⟩ | exact Or.inr ⟨by omega, by omega⟩)
inductive F_Kind where
  | Plain
  | Signed
  | Pointed
inductive F_Way where
  | Down
  | Up
  | Cut
  | Near
def wrd_Way : F_Way → Str
  | .Down => "down"
  | .Up => "up"
  | .Cut => "cut"
  | .Near => "near"
inductive Tf_Kind where
  | plain (w : Int)
  | signed (w : Int)
  | point (w : Int) (p : Int)
def tl_Kind : Tf_Kind → List V
  | .plain w => [V.str ("plain"), V.int (w), V.int (0)]
  | .signed w => [V.str ("signed"), V.int (w), V.int (0)]
  | .point w p => [V.str ("point"), V.int (w), V.int (p)]
def fl_Kind : Tf_Kind → List (Str × V)
  | .plain w => [(("width" : Str), V.int (w)), (("point" : Str), V.int (0))]
  | .signed w => [(("width" : Str), V.int (w)), (("point" : Str), V.int (0))]
  | .point w p => [(("width" : Str), V.int (w)), (("point" : Str), V.int (p))]
def kn_Kind : Tf_Kind → F_Kind
  | .plain w => .Plain
  | .signed w => .Signed
  | .point w p => .Pointed
/-- whether a quotient goes up by one -/
def adj (w : F_Way) (q r d : Int) (neg : Bool) : Bool := match w with
  | .Down => neg && decide (0 < r)
  | .Up => decide (0 < r) && !neg
  | .Cut => false
  | .Near => if r = d - r then decide (q % 2 = 1) else decide (d - r < r)
/-- what t / b is rounded to -/
def rnd (w : F_Way) (t b : Int) : Int :=
  if t < 0 then 0 - (if adj w ((-t) / b) ((-t) % b) b true = true then (-t) / b + 1 else (-t) / b)
  else (if adj w (t / b) (t % b) b false = true then t / b + 1 else t / b)
theorem rnd_neg {w : F_Way} {t b a q r : Int} {z : Bool} (h : t < 0) (ha : a = if t < 0 then -t else t) (hq : q = a / b) (hr : r = a % b) (hz : adj w q r b (decide (t < 0)) = z) : rnd w t b = 0 - (if z = true then q + 1 else q) := by
  rw [if_pos h] at ha
  rw [decide_eq_true h] at hz
  unfold rnd
  rw [if_pos h, ← ha, ← hq, ← hr, hz]
theorem rnd_pos {w : F_Way} {t b a q r : Int} {z : Bool} (h : ¬ t < 0) (ha : a = if t < 0 then -t else t) (hq : q = a / b) (hr : r = a % b) (hz : adj w q r b (decide (t < 0)) = z) : rnd w t b = if z = true then q + 1 else q := by
  rw [if_neg h] at ha
  rw [decide_eq_false h] at hz
  unfold rnd
  rw [if_neg h, ← ha, ← hq, ← hr, hz]
/-- where the rounded number lies -/
def Lies (w : F_Way) (t b f : Int) : Prop := match w with
  | .Down => -b < f * b - t ∧ f * b - t ≤ 0
  | .Up => 0 ≤ f * b - t ∧ f * b - t < b
  | .Cut => (0 ≤ t → -b < f * b - t ∧ f * b - t ≤ 0) ∧ (t < 0 → 0 ≤ f * b - t ∧ f * b - t < b)
  | .Near => (2 * (f * b - t) < b ∧ 2 * (t - f * b) < b) ∨ ((2 * (f * b - t) = b ∨ 2 * (t - f * b) = b) ∧ f % 2 = 0)
theorem lies {w : F_Way} {t b : Int} (hb : 0 < b) : Lies w t b (rnd w t b) := by
  unfold rnd
  by_cases h : t < 0
  · rw [if_pos h]
    have e := Int.ediv_mul_add_emod (-t) b
    have r0 := Int.emod_nonneg (-t) (show b ≠ 0 by omega)
    have r1 := Int.emod_lt_of_pos (-t) hb
    generalize (-t) / b = q at *
    generalize (-t) % b = r at *
    have m1 : (0 - (q + 1)) * b = -(q * b) - b := by rw [Int.sub_mul, Int.add_mul]; omega
    have m2 : (0 - q) * b = -(q * b) := by rw [Int.sub_mul]; omega
    cases w <;> unfold adj Lies
    · by_cases hr : 0 < r
      · simp only [hr, decide_true, Bool.and_self, if_true, m1]; omega
      · simp only [hr, decide_false, Bool.and_false, Bool.false_eq_true, if_false, m2]; omega
    · simp only [Bool.not_true, Bool.and_false, Bool.false_eq_true, if_false, m2]; omega
    · simp only [Bool.false_eq_true, if_false, m2]; omega
    · by_cases h1 : r = b - r
      · rw [if_pos h1]
        by_cases h2 : q % 2 = 1
        · simp only [h2, decide_true, if_true, m1]; omega
        · simp only [h2, decide_false, Bool.false_eq_true, if_false, m2]; omega
      · rw [if_neg h1]
        by_cases h2 : b - r < r
        · simp only [h2, decide_true, if_true, m1]; omega
        · simp only [h2, decide_false, Bool.false_eq_true, if_false, m2]; omega
  · rw [if_neg h]
    have e := Int.ediv_mul_add_emod t b
    have r0 := Int.emod_nonneg t (show b ≠ 0 by omega)
    have r1 := Int.emod_lt_of_pos t hb
    generalize t / b = q at *
    generalize t % b = r at *
    have m1 : (q + 1) * b = q * b + b := by rw [Int.add_mul]; omega
    cases w <;> unfold adj Lies
    · simp only [Bool.false_and, Bool.false_eq_true, if_false]; omega
    · by_cases hr : 0 < r
      · simp only [hr, decide_true, Bool.not_false, Bool.and_self, if_true, m1]; omega
      · simp only [hr, decide_false, Bool.false_and, Bool.false_eq_true, if_false]; omega
    · simp only [Bool.false_eq_true, if_false]; omega
    · by_cases h1 : r = b - r
      · rw [if_pos h1]
        by_cases h2 : q % 2 = 1
        · simp only [h2, decide_true, if_true, m1]; omega
        · simp only [h2, decide_false, Bool.false_eq_true, if_false]; omega
      · rw [if_neg h1]
        by_cases h2 : b - r < r
        · simp only [h2, decide_true, if_true, m1]; omega
        · simp only [h2, decide_false, Bool.false_eq_true, if_false]; omega
theorem adj_scale {w : F_Way} {q r d m : Int} {n : Bool} (hm : 0 < m) : adj w q (r * m) (d * m) n = adj w q r d n := by
  have e1 : (0 < r * m) ↔ (0 < r) := by
    constructor
    · intro h
      by_cases z : 0 < r
      · exact z
      · have := Int.mul_nonpos_of_nonpos_of_nonneg (show r ≤ 0 by omega) (show 0 ≤ m by omega)
        omega
    · intro h; exact Int.mul_pos h hm
  have e2 : (r * m = d * m - r * m) ↔ (r = d - r) := by
    rw [← Int.sub_mul]
    constructor
    · intro h; exact Int.eq_of_mul_eq_mul_right (by omega) h
    · intro h; rw [← h]
  have e3 : (d * m - r * m < r * m) ↔ (d - r < r) := by
    rw [← Int.sub_mul]
    constructor
    · intro h; exact Int.lt_of_mul_lt_mul_right h (by omega)
    · intro h; exact Int.mul_lt_mul_of_pos_right h hm
  cases w <;> unfold adj
  · rw [decide_eq_decide.mpr e1]
  · rw [decide_eq_decide.mpr e1]
  · rfl
  · by_cases h : r = d - r
    · rw [if_pos h, if_pos (e2.mpr h)]
    · rw [if_neg h, if_neg (fun z => h (e2.mp z)), decide_eq_decide.mpr e3]
theorem rnd_scale {w : F_Way} {t b m : Int} (hb : 0 < b) (hm : 0 < m) : rnd w (t * m) (b * m) = rnd w t b := by
  have e1 : ∀ a : Int, a * m / (b * m) = a / b := fun a => Int.mul_ediv_mul_of_pos_left a b hm
  have e2 : ∀ a : Int, a * m % (b * m) = a % b * m := fun a => by rw [Int.mul_comm a m, Int.mul_comm b m, Int.mul_emod_mul_of_pos _ _ hm, Int.mul_comm]
  have e3 : (t * m < 0) ↔ (t < 0) := by
    constructor
    · intro h
      by_cases z : t < 0
      · exact z
      · have := Int.mul_nonneg (show 0 ≤ t by omega) (show 0 ≤ m by omega)
        omega
    · intro h; exact Int.mul_neg_of_neg_of_pos h hm
  unfold rnd
  by_cases h : t < 0
  · rw [if_pos h, if_pos (e3.mpr h), ← Int.neg_mul, e1, e2, adj_scale hm]
  · rw [if_neg h, if_neg (fun z => h (e3.mp z)), e1, e2, adj_scale hm]

/-- the count of a word -/
def cnt (w a : Int) : Int := if a < 2 ^ (w - 1).toNat then a else a - 2 ^ w.toNat
theorem dm (a : Int) {n : Int} (h : 0 < n) : a = a / n * n + a % n ∧ 0 ≤ a % n ∧ a % n < n :=
  ⟨(Int.ediv_mul_add_emod a n).symm, Int.emod_nonneg _ (by omega), Int.emod_lt_of_pos _ h⟩
theorem quo01 {a n : Int} (h : 0 < n) (h0 : 0 ≤ a) (h1 : a < 2 * n) : a / n = 0 ∨ a / n = 1 := by
  have h2 : a / n < 2 := Int.ediv_lt_of_lt_mul h h1
  have h3 : 0 ≤ a / n := Int.ediv_nonneg h0 (by omega)
  omega
theorem gapx {a b n : Int} (h : 0 < n) (a0 : 0 ≤ a) (a1 : a < n) (b0 : 0 ≤ b) (b1 : b < n) : (a - b) % n = if a < b then a - b + n else a - b := by
  split
  · rw [← Int.add_emod_right, Int.emod_eq_of_lt (by omega) (by omega)]
  · rw [Int.emod_eq_of_lt (by omega) (by omega)]
theorem high_lt {a b n : Int} (h : 0 < n) (a0 : 0 ≤ a) (a1 : a < n) (b0 : 0 ≤ b) (b1 : b < n) : 0 ≤ a * b / n ∧ a * b / n < n := by
  have h1 : 0 ≤ a * b := Int.mul_nonneg a0 b0
  refine ⟨Int.ediv_nonneg h1 (by omega), Int.ediv_lt_of_lt_mul h ?_⟩
  calc a * b ≤ a * n := Int.mul_le_mul_of_nonneg_left (by omega) a0
    _ < n * n := Int.mul_lt_mul_of_pos_right a1 h
theorem rgt {a : Int} (a0 : 0 ≤ a) (k : Nat) : 0 ≤ a / 2 ^ k ∧ a / 2 ^ k ≤ a := by
  refine ⟨Int.ediv_nonneg a0 (by have := p2 k; omega), Int.ediv_le_self _ a0⟩
theorem sub_mod (a n : Int) : (a - a % n) % n = 0 := by
  have h := Int.ediv_mul_add_emod a n
  have e : a - a % n = n * (a / n) := by rw [Int.mul_comm]; omega
  rw [e, Int.mul_emod_right]
theorem top_bit {w a : Int} (hw : 1 ≤ w) (h0 : 0 ≤ a) (h1 : a < 2 ^ w.toNat) : (a / 2 ^ (w - 1).toNat = 1 ∧ 2 ^ (w - 1).toNat ≤ a) ∨ (a / 2 ^ (w - 1).toNat = 0 ∧ a < 2 ^ (w - 1).toNat) := by
  have e := pow2_pred hw
  have p := p2 (w - 1).toNat
  by_cases h : a < 2 ^ (w - 1).toNat
  · exact .inr ⟨Int.ediv_eq_zero_of_lt h0 h, h⟩
  · refine .inl ⟨?_, by omega⟩
    have h2 := quo01 p h0 (by omega)
    have h3 : 1 ≤ a / 2 ^ (w - 1).toNat := (Int.le_ediv_iff_mul_le p).mpr (by omega)
    omega
/-- the count of the rest of a number that is a count -/
theorem cnt_rest {w x : Int} (hw : 1 ≤ w) (h0 : -(2 ^ (w - 1).toNat) ≤ x) (h1 : x < 2 ^ (w - 1).toNat) : cnt w (x % 2 ^ w.toNat) = x := by
  have e := pow2_pred hw
  have p := p2 (w - 1).toNat
  unfold cnt
  by_cases h : 0 ≤ x
  · rw [Int.emod_eq_of_lt h (by omega), if_pos h1]
  · rw [← Int.add_emod_right, Int.emod_eq_of_lt (by omega) (by omega), if_neg (by omega)]
    omega
theorem cnt_lt {w a : Int} (hw : 1 ≤ w) (h0 : 0 ≤ a) (h1 : a < 2 ^ w.toNat) : -(2 ^ (w - 1).toNat) ≤ cnt w a ∧ cnt w a < 2 ^ (w - 1).toNat := by
  have e := pow2_pred hw
  unfold cnt
  split <;> omega
theorem down {x n : Int} (h : 0 < n) : 0 ≤ x - x / n * n ∧ x - x / n * n < n := by
  have := dm x h
  omega
theorem slid {w x k : Int} (hw : 1 ≤ w) (h0 : -(2 ^ (w - 1).toNat) ≤ x) (h1 : x < 2 ^ (w - 1).toNat) (n : Nat) :
    0 ≤ x - cnt w (x / 2 ^ n % 2 ^ w.toNat) * 2 ^ n ∧ x - cnt w (x / 2 ^ n % 2 ^ w.toNat) * 2 ^ n < 2 ^ n := by
  have p := p2 n
  have p1 := p2 (w - 1).toNat
  have a1 : -(2 ^ (w - 1).toNat) ≤ x / 2 ^ n := by
    refine (Int.le_ediv_iff_mul_le p).mpr ?_
    have : (2 : Int) ^ (w - 1).toNat * 1 ≤ 2 ^ (w - 1).toNat * 2 ^ n := Int.mul_le_mul_of_nonneg_left (by omega) (by omega)
    have e : -(2 : Int) ^ (w - 1).toNat * 2 ^ n = -(2 ^ (w - 1).toNat * 2 ^ n) := Int.neg_mul _ _
    omega
  have a2 : x / 2 ^ n < 2 ^ (w - 1).toNat := by
    refine Int.ediv_lt_of_lt_mul p ?_
    have : (2 : Int) ^ (w - 1).toNat * 1 ≤ 2 ^ (w - 1).toNat * 2 ^ n := Int.mul_le_mul_of_nonneg_left (by omega) (by omega)
    omega
  rw [cnt_rest hw a1 a2]
  exact down p

def kw : Tf_Kind → Int | .plain w => w | .signed w => w | .point w _ => w
def kp : Tf_Kind → Int | .plain _ => 0 | .signed _ => 0 | .point _ p => p
def kl : Tf_Kind → Int | .plain _ => 0 | .signed w => 0 - 2 ^ (w - 1).toNat | .point w _ => 0 - 2 ^ (w - 1).toNat
def kg : Tf_Kind → Int | .plain w => 2 ^ w.toNat - 1 | .signed w => 2 ^ (w - 1).toNat - 1 | .point w _ => 2 ^ (w - 1).toNat - 1
def KOk : Tf_Kind → Prop | .plain w => 4 ≤ w ∧ w ≤ 32 | .signed w => 4 ≤ w ∧ w ≤ 32 | .point w p => 4 ≤ w ∧ w ≤ 32 ∧ 1 ≤ p ∧ p < w
def knr (kd : Tf_Kind) (n : Int) : Int := if n < kl kd then kl kd else if kg kd < n then kg kd else n
theorem krng {kd : Tf_Kind} (h : KOk kd) : 4 ≤ kw kd ∧ kw kd ≤ 32 ∧ (2 : Int) ^ (kw kd - 1).toNat ≤ 2 ^ 31 ∧ (8 : Int) ≤ 2 ^ (kw kd - 1).toNat ∧ (2 : Int) ^ (kw kd).toNat = 2 * 2 ^ (kw kd - 1).toNat := by
  have h1 : 4 ≤ kw kd ∧ kw kd ≤ 32 := by cases kd <;> simp only [KOk, kw] at * <;> omega
  exact ⟨h1.1, h1.2, pow2_mono (a := (kw kd - 1).toNat) (b := 31) (by omega), pow2_mono (a := 3) (b := (kw kd - 1).toNat) (by omega), pow2_pred (by omega)⟩
theorem bq {b c : Bool} {P : Prop} (h : b = true ↔ P) (g : c = true ↔ P) : b = c := by
  have := h.trans g.symm
  cases b <;> cases c <;> simp_all
def kle1 : Tf_Kind → Int | .plain _ => 0 | .signed w => 0 - 2 ^ (w - 1).toNat | .point w _ => 0 - 2 ^ (w - 1).toNat
def kge1 : Tf_Kind → Int | .plain w => 2 ^ w.toNat - 1 | .signed w => 2 ^ (w - 1).toNat - 1 | .point w _ => 2 ^ (w - 1).toNat - 1
theorem kle {kd : Tf_Kind} (_ : KOk kd) : kl kd = kle1 kd := by cases kd <;> rfl
theorem kge {kd : Tf_Kind} (_ : KOk kd) : kg kd = kge1 kd := by cases kd <;> rfl
theorem nbi {b : Bool} {P : Prop} (h : b = true ↔ P) : (!b) = true ↔ ¬ P := by rw [← h]; cases b <;> simp
theorem nbe {P Q : Prop} [Decidable P] (h : P ↔ Q) : (!decide P) = true ↔ ¬ Q := by rw [← h]; simp
theorem knr_of {kd : Tf_Kind} {n a m l g : Int} (h1 : a ≤ n ∧ a ≤ g ∧ (a = n ∨ a = g)) (h2 : l ≤ m ∧ a ≤ m ∧ (m = l ∨ m = a)) (hl : kl kd = l) (hg : kg kd = g) : m = knr kd n ∨ g < l := by
  unfold knr; rw [hl, hg]
  by_cases z : g < l
  · exact .inr z
  · left; split <;> (try split) <;> omega
theorem rest_of {n q s r m : Int} {k : Nat} (hq : q = n / s) (hm : m = q * s) (hr : r = n - m) (hs : s = 2 ^ k) : n % 2 ^ k = r := by
  have e := Int.ediv_mul_add_emod n s
  rw [← hs, hr, hm, hq]; omega
theorem near_of {kd : Tf_Kind} {n N S l g : Int} {k : Nat} (hs : S = 2 ^ k) (hl : kl kd = l) (hg : kg kd = g) (h0 : 0 ≤ N) (h1 : N < S) (a : n < l → N = l ∨ N = l + S) (b : l ≤ n → g < n → N = g ∨ N = g + S) (c : l ≤ n → n ≤ g → N = n ∨ N = n + S) : knr kd n % 2 ^ k = N := by
  have e : N = knr kd n ∨ N = knr kd n + S := by
    unfold knr; rw [hl, hg]
    by_cases z : n < l
    · rw [if_pos z]; exact a z
    · rw [if_neg z]
      by_cases y : g < n
      · rw [if_pos y]; exact b (by omega) y
      · rw [if_neg y]; exact c (by omega) (by omega)
  rw [← hs]
  rcases e with e | e
  · rw [← e]; exact Int.emod_eq_of_lt h0 h1
  · rw [show knr kd n = N + S * (-1) by omega, Int.add_mul_emod_self_left]; exact Int.emod_eq_of_lt h0 h1

def ks : Tf_Kind → Int | .plain _ => 0 | .signed _ => 1 | .point _ _ => 2
def ibits (kd : Tf_Kind) (n : Int) (s : Bool) : Int := if s = true then knr kd n % 2 ^ (kw kd).toNat else n % 2 ^ (kw kd).toNat
def imark (kd : Tf_Kind) (n : Int) (s : Bool) : Str := if kl kd ≤ n ∧ n ≤ kg kd then "" else if s = true then "stop" else "round"
theorem imark_or (kd : Tf_Kind) (n : Int) (s : Bool) : imark kd n s = "" ∨ imark kd n s = "stop" ∨ imark kd n s = "round" := by
  unfold imark; split
  · exact .inl rfl
  · split
    · exact .inr (.inl rfl)
    · exact .inr (.inr rfl)
theorem mk3 {kd : Tf_Kind} {n : Int} {s : Bool} {m : Str} (h : m = imark kd n s) : m = "" ∨ m = "stop" ∨ m = "round" := h ▸ imark_or kd n s
theorem ins_bits {kd : Tf_Kind} {n : Int} {s : Bool} (h0 : kl kd ≤ n) (h1 : n ≤ kg kd) : ibits kd n s = n % 2 ^ (kw kd).toNat := by
  unfold ibits knr; rw [if_neg (show ¬ n < kl kd by omega), if_neg (show ¬ kg kd < n by omega)]; simp
theorem due_in {kd : Tf_Kind} {n r B w : Int} {s : Bool} (hr : r = n % B) (hB : B = 2 ^ w.toNat) (hw : w = kw kd) (h0 : kl kd ≤ n) (h1 : n ≤ kg kd) : r = ibits kd n s ∧ ("" : Str) = imark kd n s := by
  refine ⟨by rw [ins_bits h0 h1, hr, hB, hw], ?_⟩
  unfold imark; rw [if_pos ⟨h0, h1⟩]
theorem due_round {kd : Tf_Kind} {n r B w : Int} {s : Bool} (hr : r = n % B) (hB : B = 2 ^ w.toNat) (hw : w = kw kd) (h : ¬ (kl kd ≤ n ∧ n ≤ kg kd)) (hs : s = false) : r = ibits kd n s ∧ ("round" : Str) = imark kd n s := by
  subst hs
  refine ⟨by unfold ibits; rw [if_neg Bool.false_ne_true, hr, hB, hw], ?_⟩
  unfold imark; rw [if_neg h, if_neg Bool.false_ne_true]
theorem due_lo {kd : Tf_Kind} {n r B w lo : Int} {s : Bool} (hr : r = lo % B) (hB : B = 2 ^ w.toNat) (hw : w = kw kd) (hlo : lo = kl kd) (h : n < lo) (hs : s = true) : r = ibits kd n s ∧ ("stop" : Str) = imark kd n s := by
  subst hs
  refine ⟨by unfold ibits knr; rw [if_pos rfl, if_pos (show n < kl kd by omega), hr, hB, hw, hlo], ?_⟩
  unfold imark; rw [if_neg (by omega), if_pos rfl]
theorem due_hi {kd : Tf_Kind} {n hi : Int} {s : Bool} (hk : KOk kd) (hhi : hi = kg kd) (h : hi < n) (h9 : ¬ n < kl kd) (hs : s = true) : hi = ibits kd n s ∧ ("stop" : Str) = imark kd n s := by
  subst hs
  have hr := krng hk
  have e : 0 ≤ kg kd ∧ kg kd < 2 ^ (kw kd).toNat := by cases kd <;> simp only [kg, kw] at * <;> omega
  refine ⟨?_, ?_⟩
  · unfold ibits knr
    rw [if_pos rfl, if_neg h9, if_pos (show kg kd < n by omega), hhi, Int.emod_eq_of_lt e.1 e.2]
  · unfold imark; rw [if_neg (by omega), if_pos rfl]
theorem into_b1 {kd : Tf_Kind} {n N : Int} {s : Bool} (hn : n = N) (hs : s = true) : knr kd n % 2 ^ (kw kd).toNat = ibits kd N s := by
  subst hn hs; unfold ibits; rw [if_pos rfl]
theorem into_b0 {kd : Tf_Kind} {n N : Int} {s : Bool} (hn : n = N) (hs : s = false) : n % 2 ^ (kw kd).toNat = ibits kd N s := by
  subst hn hs; unfold ibits; rw [if_neg Bool.false_ne_true]
theorem into_m1 {kd : Tf_Kind} {n N : Int} {s b : Bool} (hn : n = N) (hs : s = true) (hb : b = true ↔ ¬ (kl kd ≤ n ∧ n ≤ kg kd)) (h : b = true) : ("stop" : Str) = imark kd N s := by
  subst hn hs; unfold imark; rw [if_neg (hb.mp h), if_pos rfl]
theorem into_m2 {kd : Tf_Kind} {n N : Int} {s b : Bool} (hn : n = N) (hs : s = false) (hb : b = true ↔ ¬ (kl kd ≤ n ∧ n ≤ kg kd)) (h : b = true) : ("round" : Str) = imark kd N s := by
  subst hn hs; unfold imark; rw [if_neg (hb.mp h), if_neg Bool.false_ne_true]
theorem into_m0 {kd : Tf_Kind} {n N : Int} {s b : Bool} (hn : n = N) (hb : b = true ↔ ¬ (kl kd ≤ n ∧ n ≤ kg kd)) (h : b = false) : ("" : Str) = imark kd N s := by
  subst hn
  have : kl kd ≤ n ∧ n ≤ kg kd := by
    by_cases z : kl kd ≤ n ∧ n ≤ kg kd
    · exact z
    · rw [hb.mpr z] at h; cases h
  unfold imark; rw [if_pos this]
theorem into_0 {n t B : Int} {w : F_Way} (h : n = rnd w t B) : n = rnd w (t * 2 ^ (0 : Int).toNat) B := by
  rw [show t * 2 ^ (0 : Int).toNat = t by simp]; exact h
theorem into_n {n x t p B : Int} {w : F_Way} (h : n = rnd w x B) (hx : x = t * 2 ^ p.toNat) : n = rnd w (t * 2 ^ p.toNat) B := by rw [← hx]; exact h
theorem wrd_inj {a b : F_Way} (h : wrd_Way a = wrd_Way b) : a = b := by
  cases a <;> cases b <;> first | rfl | exact absurd h (by decide +kernel)
theorem good_b {kd : Tf_Kind} {wy wz : F_Way} {b g N x t p B : Int} {s : Bool} {it : Str} (hb : b = ibits kd (rnd wy (t * 2 ^ (kp kd).toNat) B) s) (hg : g = ibits kd N s) (hN : N = rnd wz x B) (hx : x = t * 2 ^ p.toNat) (hp : p = kp kd) (h1 : it = wrd_Way wy) (h2 : it = wrd_Way wz) : b = g := by
  have := wrd_inj (h1.symm.trans h2)
  subst this hp
  rw [hb, hg, hN, hx]
theorem good_m {kd : Tf_Kind} {wy wz : F_Way} {N x t p B : Int} {s : Bool} {it m l : Str} (hb : m = imark kd (rnd wy (t * 2 ^ (kp kd).toNat) B) s) (hg : l = imark kd N s) (hN : N = rnd wz x B) (hx : x = t * 2 ^ p.toNat) (hp : p = kp kd) (h1 : it = wrd_Way wy) (h2 : it = wrd_Way wz) : m = l := by
  have := wrd_inj (h1.symm.trans h2)
  subst this hp
  rw [hb, hg, hN, hx]
theorem rnd_or {w : F_Way} {t b : Int} (hb : 0 < b) : rnd w t b = t / b ∨ rnd w t b = t / b + 1 := by
  unfold rnd
  by_cases h : t < 0
  · rw [if_pos h]
    have e := Int.ediv_mul_add_emod (-t) b
    have r0 := Int.emod_nonneg (-t) (show b ≠ 0 by omega)
    have r1 := Int.emod_lt_of_pos (-t) hb
    generalize hq : (-t) / b = q at *
    generalize (-t) % b = r at *
    have e1 : t = -(q * b) - r := by omega
    by_cases hr : r = 0
    · have : t / b = -q := by rw [e1, hr, Int.sub_zero, ← Int.neg_mul, Int.mul_ediv_cancel _ (by omega)]
      have a : adj w q r b true = false := by
        subst hr
        cases w <;> unfold adj
        · simp
        · simp
        · rfl
        · rw [if_neg (by omega)]; exact decide_eq_false (by omega)
      rw [a, this]; left; simp
    · have : t / b = -q - 1 := by
        rw [show t = (b - r) + (-q - 1) * b by rw [Int.sub_mul, Int.neg_mul]; omega, Int.add_mul_ediv_right _ _ (by omega), Int.ediv_eq_zero_of_lt (by omega) (by omega)]; omega
      rw [this]
      split <;> omega
  · rw [if_neg h]; split <;> omega
theorem lies_one {w : F_Way} {t b q : Int} (hb : 0 < b) (h0 : Lies w t b q) (h1 : Lies w t b (q + 1)) : False := by
  have m1 : (q + 1) * b = q * b + b := by rw [Int.add_mul]; omega
  cases w <;> unfold Lies at h0 h1 <;> simp only [m1] at h1 <;> omega
theorem whole_of {w : F_Way} {t b q : Int} (hb : 0 < b) (hq : q = t / b) : (Lies w t b q → rnd w t b = q) ∧ (¬ Lies w t b q → rnd w t b = q + 1) := by
  have hl := lies (w := w) (t := t) hb
  rcases rnd_or (w := w) (t := t) hb with e | e
  · rw [← hq] at e
    exact ⟨fun _ => e, fun h => absurd (e ▸ hl) h⟩
  · rw [← hq] at e
    exact ⟨fun h => (lies_one hb h (e ▸ hl)).elim, fun _ => e⟩
theorem whole_1 {w : F_Way} {t b q : Int} {z : Bool} (hb : 0 < b) (hq : q = t / b) (hz : z = true ↔ Lies w t b q) (h : z = true) : q = rnd w t b := ((whole_of hb hq).1 (hz.mp h)).symm
theorem whole_0 {w : F_Way} {t b q : Int} {z : Bool} (hb : 0 < b) (hq : q = t / b) (hz : z = true ↔ Lies w t b q) (h : z = false) : q + 1 = rnd w t b := ((whole_of hb hq).2 (fun y => by rw [hz.mpr y] at h; cases h)).symm
theorem rnd_unit {w : F_Way} {t : Int} : rnd w t 1 = t := by
  have a : ∀ (q : Int) (s : Bool), adj w q 0 1 s = false := fun q s => by
    cases w <;> unfold adj
    · simp
    · simp
    · rfl
    · rw [if_neg (by omega)]; exact decide_eq_false (by omega)
  unfold rnd
  simp only [Int.ediv_one, Int.emod_one, a]
  split <;> simp <;> omega
theorem unit_b {kd : Tf_Kind} {wy : F_Way} {b g t u a : Int} {s : Bool} (hb : b = ibits kd (rnd wy (t * 2 ^ (kp kd).toNat) 1) s) (hg : g = ibits kd u s) (h0 : kp kd = 0) (ht : t = a * 5) (hu : u = a * 5) : b = g := by
  rw [hb, hg, h0, ht, hu, rnd_unit]; simp
theorem unit_m {kd : Tf_Kind} {wy : F_Way} {t u a : Int} {s : Bool} {m l : Str} (hb : m = imark kd (rnd wy (t * 2 ^ (kp kd).toNat) 1) s) (hg : l = imark kd u s) (h0 : kp kd = 0) (ht : t = a * 5) (hu : u = a * 5) : m = l := by
  rw [hb, hg, h0, ht, hu, rnd_unit]; simp
theorem kind_of {s w p : Int} (h0 : 0 ≤ s) (h1 : s < 3) (w0 : 4 ≤ w) (w1 : w ≤ 32) (p0 : s ≠ 2 → p = 0) (p1 : s = 2 → 1 ≤ p ∧ p < w) : ∃ kd, s = ks kd ∧ w = kw kd ∧ KOk kd ∧ p = kp kd ∧ 0 ≤ p ∧ p ≤ 31 := by
  rcases (by omega : s = 0 ∨ s = 1 ∨ s = 2) with rfl | rfl | rfl
  · exact ⟨.plain w, rfl, rfl, ⟨w0, w1⟩, p0 (by decide), by omega, by omega⟩
  · exact ⟨.signed w, rfl, rfl, ⟨w0, w1⟩, p0 (by decide), by omega, by omega⟩
  · have := p1 rfl
    exact ⟨.point w p, rfl, rfl, ⟨w0, w1, this.1, this.2⟩, rfl, by omega, by omega⟩

def top (i : Nat) : Stmt := PySem.Challenge.pw_overwise_k16_into_words.main.body.getD i (.Pass ⟨0, 0, 0, 0⟩)
abbrev s_all_ways : Stmt := top 14
theorem sc_all_ways : FnScope [] [] (defScope s_all_ways) := ⟨rfl, rfl, rfl, by decide +kernel, rfl, by decide +kernel, by decide +kernel⟩
abbrev s_way_of : Stmt := top 15
theorem sc_way_of : FnScope ["word"] ["word"] (defScope s_way_of) := ⟨rfl, rfl, rfl, by decide +kernel, rfl, by decide +kernel, by decide +kernel⟩
abbrev s_l_begun : Stmt := top 31
theorem sc_l_begun : FnScope ["_law_cell_here", "_law_rest"] ["_law_cell_here"] (defScope s_l_begun) := ⟨rfl, rfl, rfl, by decide +kernel, rfl, by decide +kernel, by decide +kernel⟩
abbrev s_l_draw : Stmt := top 32
theorem sc_l_draw : FnScope ["_law_state", "_law_many", "_law_found", "_law_number_here"] ["_law_state", "_law_many"] (defScope s_l_draw) := ⟨rfl, rfl, rfl, by decide +kernel, rfl, by decide +kernel, by decide +kernel⟩
abbrev s_l_number : Stmt := top 34
theorem sc_l_number : FnScope ["_law_state", "_law_way", "_law_number_here"] ["_law_state"] (defScope s_l_number) := ⟨rfl, rfl, rfl, by decide +kernel, rfl, by decide +kernel, by decide +kernel⟩
abbrev s_l_top : Stmt := top 41
theorem sc_l_top : FnScope ["_law_state", "_law_ends_here", "_law_bottom", "_law_off"] ["_law_state", "_law_ends_here", "_law_bottom"] (defScope s_l_top) := ⟨rfl, rfl, rfl, by decide +kernel, rfl, by decide +kernel, by decide +kernel⟩
abbrev s_is_whole : Stmt := top 20
theorem sc_is_whole : FnScope ["thing"] ["thing"] (defScope s_is_whole) := ⟨rfl, rfl, rfl, by decide +kernel, rfl, by decide +kernel, by decide +kernel⟩
abbrev s_need_width : Stmt := top 21
theorem sc_need_width : FnScope ["width"] ["width"] (defScope s_need_width) := ⟨rfl, rfl, rfl, by decide +kernel, rfl, by decide +kernel, by decide +kernel⟩
abbrev s_Kind___init__ : Stmt := inClass (top 25) 0
theorem sc_Kind___init__ : FnScope ["self", "width", "point"] ["self", "width", "point"] (defScope s_Kind___init__) := ⟨rfl, rfl, rfl, by decide +kernel, rfl, by decide +kernel, by decide +kernel⟩
abbrev s_Pointed___init__ : Stmt := inClass (top 28) 0
theorem sc_Pointed___init__ : FnScope ["self", "width", "point"] ["self", "width", "point"] (defScope s_Pointed___init__) := ⟨rfl, rfl, rfl, by decide +kernel, rfl, by decide +kernel, by decide +kernel⟩
abbrev s_Plain___init__ : Stmt := inClass (top 26) 0
theorem sc_Plain___init__ : FnScope ["self", "width"] ["self", "width"] (defScope s_Plain___init__) := ⟨rfl, rfl, rfl, by decide +kernel, rfl, by decide +kernel, by decide +kernel⟩
abbrev s_Signed___init__ : Stmt := inClass (top 27) 0
theorem sc_Signed___init__ : FnScope ["self", "width"] ["self", "width"] (defScope s_Signed___init__) := ⟨rfl, rfl, rfl, by decide +kernel, rfl, by decide +kernel, by decide +kernel⟩
abbrev s_l_kind : Stmt := top 36
theorem sc_l_kind : FnScope ["_law_sort", "_law_width", "_law_point"] ["_law_sort", "_law_width", "_law_point"] (defScope s_l_kind) := ⟨rfl, rfl, rfl, by decide +kernel, rfl, by decide +kernel, by decide +kernel⟩
abbrev s_l_ends : Stmt := top 37
theorem sc_l_ends : FnScope ["_law_sort", "_law_width"] ["_law_sort", "_law_width"] (defScope s_l_ends) := ⟨rfl, rfl, rfl, by decide +kernel, rfl, by decide +kernel, by decide +kernel⟩
abbrev s_l_right : Stmt := top 35
theorem sc_l_right : FnScope ["_law_word", "_law_top_here", "_law_bottom", "_law_found", "_law_miss"] ["_law_word", "_law_top_here", "_law_bottom", "_law_found"] (defScope s_l_right) := ⟨rfl, rfl, rfl, by decide +kernel, rfl, by decide +kernel, by decide +kernel⟩
abbrev s_l_whole_of : Stmt := top 38
theorem sc_l_whole_of : FnScope ["_law_word", "_law_top_here", "_law_bottom", "_law_number_here"] ["_law_word", "_law_top_here", "_law_bottom"] (defScope s_l_whole_of) := ⟨rfl, rfl, rfl, by decide +kernel, rfl, by decide +kernel, by decide +kernel⟩
abbrev s_Down_adjust : Stmt := inClass (top 10) 1
theorem sc_Down_adjust : FnScope ["self", "quotient", "rest", "divisor", "negative"] ["self", "quotient", "rest", "divisor", "negative"] (defScope s_Down_adjust) := ⟨rfl, rfl, rfl, by decide +kernel, rfl, by decide +kernel, by decide +kernel⟩
abbrev s_Up_adjust : Stmt := inClass (top 11) 1
theorem sc_Up_adjust : FnScope ["self", "quotient", "rest", "divisor", "negative"] ["self", "quotient", "rest", "divisor", "negative"] (defScope s_Up_adjust) := ⟨rfl, rfl, rfl, by decide +kernel, rfl, by decide +kernel, by decide +kernel⟩
abbrev s_Way_adjust : Stmt := inClass (top 9) 1
theorem sc_Way_adjust : FnScope ["self", "quotient", "rest", "divisor", "negative"] ["self", "quotient", "rest", "divisor", "negative"] (defScope s_Way_adjust) := ⟨rfl, rfl, rfl, by decide +kernel, rfl, by decide +kernel, by decide +kernel⟩
abbrev s_Near_adjust : Stmt := inClass (top 13) 2
theorem sc_Near_adjust : FnScope ["self", "quotient", "rest", "divisor", "negative"] ["self", "quotient", "rest", "divisor", "negative"] (defScope s_Near_adjust) := ⟨rfl, rfl, rfl, by decide +kernel, rfl, by decide +kernel, by decide +kernel⟩
abbrev s_Way_rounded : Stmt := inClass (top 9) 3
theorem sc_Way_rounded : FnScope ["self", "top", "bottom", "quotient", "rest"] ["self", "top", "bottom"] (defScope s_Way_rounded) := ⟨rfl, rfl, rfl, by decide +kernel, rfl, by decide +kernel, by decide +kernel⟩
abbrev s_Plain_least : Stmt := inClass (top 26) 2
theorem sc_Plain_least : FnScope ["self"] ["self"] (defScope s_Plain_least) := ⟨rfl, rfl, rfl, by decide +kernel, rfl, by decide +kernel, by decide +kernel⟩
abbrev s_Kind_least : Stmt := inClass (top 25) 2
theorem sc_Kind_least : FnScope ["self"] ["self"] (defScope s_Kind_least) := ⟨rfl, rfl, rfl, by decide +kernel, rfl, by decide +kernel, by decide +kernel⟩
abbrev s_Plain_greatest : Stmt := inClass (top 26) 3
theorem sc_Plain_greatest : FnScope ["self"] ["self"] (defScope s_Plain_greatest) := ⟨rfl, rfl, rfl, by decide +kernel, rfl, by decide +kernel, by decide +kernel⟩
abbrev s_Kind_greatest : Stmt := inClass (top 25) 3
theorem sc_Kind_greatest : FnScope ["self"] ["self"] (defScope s_Kind_greatest) := ⟨rfl, rfl, rfl, by decide +kernel, rfl, by decide +kernel, by decide +kernel⟩
abbrev s_Kind_is_count : Stmt := inClass (top 25) 4
theorem sc_Kind_is_count : FnScope ["self", "number"] ["self", "number"] (defScope s_Kind_is_count) := ⟨rfl, rfl, rfl, by decide +kernel, rfl, by decide +kernel, by decide +kernel⟩
abbrev s_Kind_bits_of : Stmt := inClass (top 25) 6
theorem sc_Kind_bits_of : FnScope ["self", "count"] ["self", "count"] (defScope s_Kind_bits_of) := ⟨rfl, rfl, rfl, by decide +kernel, rfl, by decide +kernel, by decide +kernel⟩
abbrev s_Kind_stop_at : Stmt := inClass (top 25) 9
theorem sc_Kind_stop_at : FnScope ["self", "number", "nearest"] ["self", "number"] (defScope s_Kind_stop_at) := ⟨rfl, rfl, rfl, by decide +kernel, rfl, by decide +kernel, by decide +kernel⟩
abbrev s_Kind_go_round : Stmt := inClass (top 25) 8
theorem sc_Kind_go_round : FnScope ["self", "number"] ["self", "number"] (defScope s_Kind_go_round) := ⟨rfl, rfl, rfl, by decide +kernel, rfl, by decide +kernel, by decide +kernel⟩
abbrev s_into : Stmt := top 16
theorem sc_into : FnScope ["kind", "way", "top", "bottom", "stops", "number", "bits", "beyond", "mark"] ["kind", "way", "top", "bottom", "stops"] (defScope s_into) := ⟨rfl, rfl, rfl, by decide +kernel, rfl, by decide +kernel, by decide +kernel⟩
abbrev s_l_whole : Stmt := top 33
theorem sc_l_whole : FnScope ["_law_found"] ["_law_found"] (defScope s_l_whole) := ⟨rfl, rfl, rfl, by decide +kernel, rfl, by decide +kernel, by decide +kernel⟩
abbrev s_l_good : Stmt := top 40
theorem sc_l_good : FnScope ["_law_found", "_law_due_here"] ["_law_found", "_law_due_here"] (defScope s_l_good) := ⟨rfl, rfl, rfl, by decide +kernel, rfl, by decide +kernel, by decide +kernel⟩
abbrev s_l_due : Stmt := top 39
theorem sc_l_due : FnScope ["_law_sort", "_law_width", "_law_number_here", "_law_stops", "_law_first_one", "_law_last_one"] ["_law_sort", "_law_width", "_law_number_here", "_law_stops"] (defScope s_l_due) := ⟨rfl, rfl, rfl, by decide +kernel, rfl, by decide +kernel, by decide +kernel⟩
abbrev s_l_one : Stmt := top 42
theorem sc_l_one : FnScope ["_law_cell_here", "_law_ways", "_law_state", "_law_sort", "_law_width", "_law_point", "_law_bottom", "_law_top_here", "_law_turn", "_law_kind_here", "_law_j", "_law_at", "_law_word", "_law_stops", "_law_number_here", "_law_plain"] ["_law_cell_here", "_law_ways"] (defScope s_l_one) := ⟨rfl, rfl, rfl, by decide +kernel, rfl, by decide +kernel, by decide +kernel⟩
abbrev s_l_cell : Stmt := top 30
theorem sc_l_cell : FnScope ["_law_script", "_law_k", "_law_number_here"] ["_law_script", "_law_k"] (defScope s_l_cell) := ⟨rfl, rfl, rfl, by decide +kernel, rfl, by decide +kernel, by decide +kernel⟩
abbrev s_law : Stmt := top 43
theorem sc_law : FnScope ["_law_script", "_law_ways", "_law_k", "_law_word"] ["_law_script"] (defScope s_law) := ⟨rfl, rfl, rfl, by decide +kernel, rfl, by decide +kernel, by decide +kernel⟩
structure Tx (K : PySem.W.Frag) (mg : Str → Option Value) : Type where
  k_Cut : Ow.Kc K mg "Cut"
  k_Down : Ow.Kc K mg "Down"
  k_Kind : Ow.Kc K mg "Kind"
  k_Near : Ow.Kc K mg "Near"
  k_Plain : Ow.Kc K mg "Plain"
  k_Pointed : Ow.Kc K mg "Pointed"
  k_Signed : Ow.Kc K mg "Signed"
  k_Up : Ow.Kc K mg "Up"
  m0_Cut : Ow.Mk0 K k_Cut.C
  m0_Down : Ow.Mk0 K k_Down.C
  m0_Near : Ow.Mk0 K k_Near.C
  m0_Up : Ow.Mk0 K k_Up.C
  na_Plain_point : NoAttr K k_Plain.C "point"
  na_Plain_width : NoAttr K k_Plain.C "width"
  na_Pointed_point : NoAttr K k_Pointed.C "point"
  na_Pointed_width : NoAttr K k_Pointed.C "width"
  na_Signed_point : NoAttr K k_Signed.C "point"
  na_Signed_width : NoAttr K k_Signed.C "width"
  d_all_ways : Ow.Dk K mg "all_ways" "all_ways" s_all_ways []
  d_way_of : Ow.Dk K mg "way_of" "way_of" s_way_of ["word"]
  d_l_begun : Ow.Dk K mg "_law_begun" "_law_begun" s_l_begun ["_law_cell_here"]
  d_l_draw : Ow.Dk K mg "_law_draw" "_law_draw" s_l_draw ["_law_state", "_law_many"]
  d_l_number : Ow.Dk K mg "_law_number" "_law_number" s_l_number ["_law_state"]
  d_l_top : Ow.Dk K mg "_law_top" "_law_top" s_l_top ["_law_state", "_law_ends_here", "_law_bottom"]
  d_is_whole : Ow.Dk K mg "is_whole" "is_whole" s_is_whole ["thing"]
  d_need_width : Ow.Dk K mg "need_width" "need_width" s_need_width ["width"]
  d_Kind___init__ : Ow.Dm K "__init__" "Kind.__init__" s_Kind___init__ ["self", "width", "point"]
  d_Pointed___init__ : Ow.Dm K "__init__" "Pointed.__init__" s_Pointed___init__ ["self", "width", "point"]
  d_Plain___init__ : Ow.Dm K "__init__" "Plain.__init__" s_Plain___init__ ["self", "width"]
  d_Signed___init__ : Ow.Dm K "__init__" "Signed.__init__" s_Signed___init__ ["self", "width"]
  d_l_kind : Ow.Dk K mg "_law_kind" "_law_kind" s_l_kind ["_law_sort", "_law_width", "_law_point"]
  d_l_ends : Ow.Dk K mg "_law_ends" "_law_ends" s_l_ends ["_law_sort", "_law_width"]
  d_l_right : Ow.Dk K mg "_law_right" "_law_right" s_l_right ["_law_word", "_law_top_here", "_law_bottom", "_law_found"]
  d_l_whole_of : Ow.Dk K mg "_law_whole_of" "_law_whole_of" s_l_whole_of ["_law_word", "_law_top_here", "_law_bottom"]
  d_Down_adjust : Ow.Dm K "adjust" "Down.adjust" s_Down_adjust ["self", "quotient", "rest", "divisor", "negative"]
  mt_Down_adjust : Meth K k_Down.C "adjust" d_Down_adjust.f
  d_Up_adjust : Ow.Dm K "adjust" "Up.adjust" s_Up_adjust ["self", "quotient", "rest", "divisor", "negative"]
  mt_Up_adjust : Meth K k_Up.C "adjust" d_Up_adjust.f
  d_Way_adjust : Ow.Dm K "adjust" "Way.adjust" s_Way_adjust ["self", "quotient", "rest", "divisor", "negative"]
  mt_Cut_adjust : Meth K k_Cut.C "adjust" d_Way_adjust.f
  d_Near_adjust : Ow.Dm K "adjust" "Near.adjust" s_Near_adjust ["self", "quotient", "rest", "divisor", "negative"]
  mt_Near_adjust : Meth K k_Near.C "adjust" d_Near_adjust.f
  d_Way_rounded : Ow.Dm K "rounded" "Way.rounded" s_Way_rounded ["self", "top", "bottom"]
  mt_Cut_rounded : Meth K k_Cut.C "rounded" d_Way_rounded.f
  mt_Down_rounded : Meth K k_Down.C "rounded" d_Way_rounded.f
  mt_Near_rounded : Meth K k_Near.C "rounded" d_Way_rounded.f
  mt_Up_rounded : Meth K k_Up.C "rounded" d_Way_rounded.f
  d_Plain_least : Ow.Dm K "least" "Plain.least" s_Plain_least ["self"]
  mt_Plain_least : Meth K k_Plain.C "least" d_Plain_least.f
  d_Kind_least : Ow.Dm K "least" "Kind.least" s_Kind_least ["self"]
  mt_Pointed_least : Meth K k_Pointed.C "least" d_Kind_least.f
  mt_Signed_least : Meth K k_Signed.C "least" d_Kind_least.f
  d_Plain_greatest : Ow.Dm K "greatest" "Plain.greatest" s_Plain_greatest ["self"]
  mt_Plain_greatest : Meth K k_Plain.C "greatest" d_Plain_greatest.f
  d_Kind_greatest : Ow.Dm K "greatest" "Kind.greatest" s_Kind_greatest ["self"]
  mt_Pointed_greatest : Meth K k_Pointed.C "greatest" d_Kind_greatest.f
  mt_Signed_greatest : Meth K k_Signed.C "greatest" d_Kind_greatest.f
  d_Kind_is_count : Ow.Dm K "is_count" "Kind.is_count" s_Kind_is_count ["self", "number"]
  mt_Plain_is_count : Meth K k_Plain.C "is_count" d_Kind_is_count.f
  mt_Pointed_is_count : Meth K k_Pointed.C "is_count" d_Kind_is_count.f
  mt_Signed_is_count : Meth K k_Signed.C "is_count" d_Kind_is_count.f
  d_Kind_bits_of : Ow.Dm K "bits_of" "Kind.bits_of" s_Kind_bits_of ["self", "count"]
  mt_Plain_bits_of : Meth K k_Plain.C "bits_of" d_Kind_bits_of.f
  mt_Pointed_bits_of : Meth K k_Pointed.C "bits_of" d_Kind_bits_of.f
  mt_Signed_bits_of : Meth K k_Signed.C "bits_of" d_Kind_bits_of.f
  d_Kind_stop_at : Ow.Dm K "stop_at" "Kind.stop_at" s_Kind_stop_at ["self", "number"]
  mt_Plain_stop_at : Meth K k_Plain.C "stop_at" d_Kind_stop_at.f
  mt_Pointed_stop_at : Meth K k_Pointed.C "stop_at" d_Kind_stop_at.f
  mt_Signed_stop_at : Meth K k_Signed.C "stop_at" d_Kind_stop_at.f
  d_Kind_go_round : Ow.Dm K "go_round" "Kind.go_round" s_Kind_go_round ["self", "number"]
  mt_Plain_go_round : Meth K k_Plain.C "go_round" d_Kind_go_round.f
  mt_Pointed_go_round : Meth K k_Pointed.C "go_round" d_Kind_go_round.f
  mt_Signed_go_round : Meth K k_Signed.C "go_round" d_Kind_go_round.f
  d_into : Ow.Dk K mg "into" "into" s_into ["kind", "way", "top", "bottom", "stops"]
  d_l_whole : Ow.Dk K mg "_law_whole" "_law_whole" s_l_whole ["_law_found"]
  d_l_good : Ow.Dk K mg "_law_good" "_law_good" s_l_good ["_law_found", "_law_due_here"]
  d_l_due : Ow.Dk K mg "_law_due" "_law_due" s_l_due ["_law_sort", "_law_width", "_law_number_here", "_law_stops"]
  d_l_one : Ow.Dk K mg "_law_one" "_law_one" s_l_one ["_law_cell_here", "_law_ways"]
  d_l_cell : Ow.Dk K mg "_law_cell" "_law_cell" s_l_cell ["_law_script", "_law_k"]
  d_law : Ow.Dk K mg "law" "law" s_law ["_law_script"]
  mk_Plain : Mk K k_Plain.C d_Plain___init__.f
  mk_Pointed : Mk K k_Pointed.C d_Pointed___init__.f
  mk_Signed : Mk K k_Signed.C d_Signed___init__.f
  cc_Kind___init__ : Ow.Cc K k_Kind.C "__init__" d_Kind___init__.f
  g_LEAST_WIDTH : ∃ t, mg "LEAST_WIDTH" = some (.int 4 t)
  g_GREATEST_WIDTH : ∃ t, mg "GREATEST_WIDTH" = some (.int 32 t)
  z_isinstance : mg "isinstance" = none
  z_str : mg "str" = none
  z_bool : mg "bool" = none
  z_int : mg "int" = none
  z_abs : mg "abs" = none
  z_divmod : mg "divmod" = none
  z_max : mg "max" = none
  z_min : mg "min" = none
  z_len : mg "len" = none
  z_tuple : mg "tuple" = none
  z_range : mg "range" = none
def cls_Kind {K : PySem.W.Frag} {mg : Str → Option Value} (T : Tx K mg) : F_Kind → Addr
  | .Plain => T.k_Plain.C
  | .Signed => T.k_Signed.C
  | .Pointed => T.k_Pointed.C
theorem kcl_Kind {K : PySem.W.Frag} {mg : Str → Option Value} (T : Tx K mg) (w : F_Kind) : Cls K (cls_Kind T w) := by cases w <;> first | exact T.k_Plain.cl | exact T.k_Signed.cl | exact T.k_Pointed.cl
def cls_Way {K : PySem.W.Frag} {mg : Str → Option Value} (T : Tx K mg) : F_Way → Addr
  | .Down => T.k_Down.C
  | .Up => T.k_Up.C
  | .Cut => T.k_Cut.C
  | .Near => T.k_Near.C
theorem kcl_Way {K : PySem.W.Frag} {mg : Str → Option Value} (T : Tx K mg) (w : F_Way) : Cls K (cls_Way T w) := by cases w <;> first | exact T.k_Down.cl | exact T.k_Up.cl | exact T.k_Cut.cl | exact T.k_Near.cl
theorem kna_Kind_point {K : PySem.W.Frag} {mg : Str → Option Value} (T : Tx K mg) (w : F_Kind) : NoAttr K (cls_Kind T w) "point" := by cases w <;> first | exact T.na_Plain_point | exact T.na_Signed_point | exact T.na_Pointed_point
theorem kna_Kind_width {K : PySem.W.Frag} {mg : Str → Option Value} (T : Tx K mg) (w : F_Kind) : NoAttr K (cls_Kind T w) "width" := by cases w <;> first | exact T.na_Plain_width | exact T.na_Signed_width | exact T.na_Pointed_width
def ix_Way : F_Way → Int
  | .Down => 0
  | .Up => 1
  | .Cut => 2
  | .Near => 3
theorem ixo_Way {K : PySem.W.Frag} {mg : Str → Option Value} (T : Tx K mg) {H : Hp} {Q : VK} {a : Addr} {o0 d0 o1 d1 o2 d2 o3 d3 : Addr} {i : Int} (h : SqL K H a [.ref o0, .ref o1, .ref o2, .ref o3]) (h0 : H o0 = some (.ins T.k_Down.C d0 [])) (h1 : H o1 = some (.ins T.k_Up.C d1 [])) (h2 : H o2 = some (.ins T.k_Cut.C d2 [])) (h3 : H o3 = some (.ins T.k_Near.C d3 [])) (hi : 0 ≤ i ∧ i < 4)
    (q : ∀ wy o dx, i = ix_Way wy → H o = some (.ins (cls_Way T wy) dx []) → Q (.ref o) H) : rIxL K (.ref a) (.int i) H Q := by
  obtain ⟨n, rfl⟩ : ∃ n : Nat, i = n := ⟨i.toNat, by omega⟩
  have : n = 0 ∨ n = 1 ∨ n = 2 ∨ n = 3 := by omega
  rcases this with rfl | rfl | rfl | rfl
  · exact ⟨a, _, _, .ref o0, rfl, rfl, h, atI_nat (j := 0) rfl, q .Down _ _ rfl h0⟩
  · exact ⟨a, _, _, .ref o1, rfl, rfl, h, atI_nat (j := 1) rfl, q .Up _ _ rfl h1⟩
  · exact ⟨a, _, _, .ref o2, rfl, rfl, h, atI_nat (j := 2) rfl, q .Cut _ _ rfl h2⟩
  · exact ⟨a, _, _, .ref o3, rfl, rfl, h, atI_nat (j := 3) rfl, q .Near _ _ rfl h3⟩
def sp_all_ways {K : PySem.W.Frag} {mg : Str → Option Value} (T : Tx K mg) : Sp := fun vs H Q E => vs = [] ∧ (∀ aq, H aq = none → Q (.ref aq) (upd H aq (.lst [.str ("down"), .str ("up"), .str ("cut"), .str ("near")])))
def sp_way_of {K : PySem.W.Frag} {mg : Str → Option Value} (T : Tx K mg) : Sp := fun vs H Q E => ∃ (word : Str) (wy : Ow.F_Way), vs = [.str word] ∧ (word = Ow.wrd_Way wy) ∧ (∀ aq dq H', Same H H' → H aq = none → H' aq = some (.ins (Ow.cls_Way T wy) dq []) → Q (.ref aq) H')
def sp_l_begun {K : PySem.W.Frag} {mg : Str → Option Value} (T : Tx K mg) : Sp := fun vs H Q E => ∃ (cell : Int), vs = [.int cell] ∧ (∀ (a : Int), ∀ (n : Int), ∀ aq, H aq = none → Q (.ref aq) (upd H aq (.lst [.int (a), .int (0), .int (n)])))
def sp_l_draw {K : PySem.W.Frag} {mg : Str → Option Value} (T : Tx K mg) : Sp := fun vs H Q E => ∃ (box : Addr) (many : Int) (a : Int) (n : Int) (c : Int), vs = [.ref box, .int many] ∧ H box = some (.lst [.int (a), .int (n), .int (c)]) ∧ (0 < many) ∧ (many ≤ 18446744073709551616) ∧ (∀ (r : Int), ∀ (a2 : Int), ∀ (n2 : Int), (0 ≤ r) → (r < many) → Q (.int (r)) (upd H box (.lst [.int (a2), .int (n2), .int (c)])))
def sp_l_number {K : PySem.W.Frag} {mg : Str → Option Value} (T : Tx K mg) : Sp := fun vs H Q E => ∃ (box : Addr) (a : Int) (n : Int) (c : Int), vs = [.ref box] ∧ H box = some (.lst [.int (a), .int (n), .int (c)]) ∧ (∀ (r : Int), ∀ (a2 : Int), ∀ (n2 : Int), (Ow.Sz 2440 r) → ∀ H', Ow.Fm box H H' → H' box = some (.lst [.int (a2), .int (n2), .int (c)]) → Q (.int (r)) H')
def sp_l_top {K : PySem.W.Frag} {mg : Str → Option Value} (T : Tx K mg) : Sp := fun vs H Q E => ∃ (box : Addr) (ends : Addr) (bottom : Int) (a : Int) (n : Int) (c : Int) (lo : Int) (hi : Int), vs = [.ref box, .ref ends, .int bottom] ∧ H box = some (.lst [.int (a), .int (n), .int (c)]) ∧ H ends = some (.lst [.int (lo), .int (hi)]) ∧ Ow.Sz 40 lo ∧ Ow.Sz 40 hi ∧ (0 < bottom) ∧ Ow.Sz 2442 bottom ∧ ends ≠ box ∧ (∀ (r : Int), ∀ (a2 : Int), ∀ (n2 : Int), (Ow.Sz 2500 r) → ∀ H', Ow.Fm box H H' → H' box = some (.lst [.int (a2), .int (n2), .int (c)]) → Q (.int (r)) H')
def sp_is_whole {K : PySem.W.Frag} {mg : Str → Option Value} (T : Tx K mg) : Sp := fun vs H Q E => ∃ (thing : Int), vs = [.int thing] ∧ (Q (.bl (true)) H)
def sp_need_width {K : PySem.W.Frag} {mg : Str → Option Value} (T : Tx K mg) : Sp := fun vs H Q E => ∃ (width : Int), vs = [.int width] ∧ (4 ≤ width) ∧ (width ≤ 32) ∧ (Q (.non) H)
def sp_Kind___init__ {K : PySem.W.Frag} {mg : Str → Option Value} (T : Tx K mg) : Sp := fun vs H Q E => ∃ (self : Addr) (width : Int) (point : Int) (wy : Ow.F_Kind) (dx_self : Addr), vs = [.ref self, .int width, .int point] ∧ H self = some (.ins (Ow.cls_Kind T wy) dx_self []) ∧ (4 ≤ width) ∧ (width ≤ 32) ∧ (∀ H', Ow.Fm self H H' → H' self = some (.ins (Ow.cls_Kind T wy) dx_self [(("width" : Str), V.int (width)), (("point" : Str), V.int (point))]) → Q .non H')
def sp_Pointed___init__ {K : PySem.W.Frag} {mg : Str → Option Value} (T : Tx K mg) : Sp := fun vs H Q E => ∃ (self : Addr) (width : Int) (point : Int) (dx_self : Addr), vs = [.ref self, .int width, .int point] ∧ H self = some (.ins (T.k_Pointed.C) dx_self []) ∧ (4 ≤ width) ∧ (width ≤ 32) ∧ (1 ≤ point) ∧ (point < width) ∧ (∀ H', Ow.Fm self H H' → H' self = some (.ins (T.k_Pointed.C) dx_self [(("width" : Str), V.int (width)), (("point" : Str), V.int (point))]) → Q .non H')
def sp_Plain___init__ {K : PySem.W.Frag} {mg : Str → Option Value} (T : Tx K mg) : Sp := fun vs H Q E => ∃ (self : Addr) (width : Int) (dx_self : Addr), vs = [.ref self, .int width] ∧ H self = some (.ins (T.k_Plain.C) dx_self []) ∧ (4 ≤ width) ∧ (width ≤ 32) ∧ (∀ H', Ow.Fm self H H' → H' self = some (.ins (T.k_Plain.C) dx_self [(("width" : Str), V.int (width)), (("point" : Str), V.int (0))]) → Q .non H')
def sp_Signed___init__ {K : PySem.W.Frag} {mg : Str → Option Value} (T : Tx K mg) : Sp := fun vs H Q E => ∃ (self : Addr) (width : Int) (dx_self : Addr), vs = [.ref self, .int width] ∧ H self = some (.ins (T.k_Signed.C) dx_self []) ∧ (4 ≤ width) ∧ (width ≤ 32) ∧ (∀ H', Ow.Fm self H H' → H' self = some (.ins (T.k_Signed.C) dx_self [(("width" : Str), V.int (width)), (("point" : Str), V.int (0))]) → Q .non H')
def sp_l_kind {K : PySem.W.Frag} {mg : Str → Option Value} (T : Tx K mg) : Sp := fun vs H Q E => ∃ (sort : Int) (width : Int) (point : Int) (kd : Ow.Tf_Kind), vs = [.int sort, .int width, .int point] ∧ (sort = Ow.ks kd) ∧ (width = Ow.kw kd) ∧ (Ow.KOk kd) ∧ (point = Ow.kp kd) ∧ (∀ aq dq H', Same H H' → H aq = none → H' aq = some (.ins (Ow.cls_Kind T (Ow.kn_Kind kd)) dq (Ow.fl_Kind kd)) → Q (.ref aq) H')
def sp_l_ends {K : PySem.W.Frag} {mg : Str → Option Value} (T : Tx K mg) : Sp := fun vs H Q E => ∃ (sort : Int) (width : Int) (kd : Ow.Tf_Kind), vs = [.int sort, .int width] ∧ (sort = Ow.ks kd) ∧ (width = Ow.kw kd) ∧ (Ow.KOk kd) ∧ (∀ (lo : Int), ∀ (hi : Int), (lo = Ow.kl kd) → (hi = Ow.kg kd) → (Ow.Sz 40 lo) → (Ow.Sz 40 hi) → ∀ aq H', Same H H' → H aq = none → H' aq = some (.lst [.int (lo), .int (hi)]) → Q (.ref aq) H')
def sp_l_right {K : PySem.W.Frag} {mg : Str → Option Value} (T : Tx K mg) : Sp := fun vs H Q E => ∃ (word : Str) (top : Int) (bottom : Int) (found : Int) (wy : Ow.F_Way), vs = [.str word, .int top, .int bottom, .int found] ∧ (word = Ow.wrd_Way wy) ∧ (0 < bottom) ∧ Ow.Sz 4000 top ∧ Ow.Sz 4000 bottom ∧ Ow.Sz 4002 found ∧ (∀ (b : Bool), (b = true ↔ Ow.Lies wy top bottom found) → Q (.bl (b)) H)
def sp_l_whole_of {K : PySem.W.Frag} {mg : Str → Option Value} (T : Tx K mg) : Sp := fun vs H Q E => ∃ (word : Str) (top : Int) (bottom : Int) (wy : Ow.F_Way), vs = [.str word, .int top, .int bottom] ∧ (word = Ow.wrd_Way wy) ∧ (0 < bottom) ∧ Ow.Sz 4000 top ∧ Ow.Sz 4000 bottom ∧ (∀ (f : Int), (f = Ow.rnd wy top bottom) → Q (.int (f)) H)
def sp_Down_adjust {K : PySem.W.Frag} {mg : Str → Option Value} (T : Tx K mg) : Sp := fun vs H Q E => ∃ (self : Addr) (quotient : Int) (rest : Int) (divisor : Int) (negative : Bool) (dx_self : Addr), vs = [.ref self, .int quotient, .int rest, .int divisor, .bl negative] ∧ H self = some (.ins (T.k_Down.C) dx_self []) ∧ (Q (.bl (Ow.adj .Down quotient rest divisor negative)) H)
def sp_Up_adjust {K : PySem.W.Frag} {mg : Str → Option Value} (T : Tx K mg) : Sp := fun vs H Q E => ∃ (self : Addr) (quotient : Int) (rest : Int) (divisor : Int) (negative : Bool) (dx_self : Addr), vs = [.ref self, .int quotient, .int rest, .int divisor, .bl negative] ∧ H self = some (.ins (T.k_Up.C) dx_self []) ∧ (Q (.bl (Ow.adj .Up quotient rest divisor negative)) H)
def sp_Way_adjust {K : PySem.W.Frag} {mg : Str → Option Value} (T : Tx K mg) : Sp := fun vs H Q E => ∃ (self : Addr) (quotient : Int) (rest : Int) (divisor : Int) (negative : Bool) (dx_self : Addr), vs = [.ref self, .int quotient, .int rest, .int divisor, .bl negative] ∧ H self = some (.ins (T.k_Cut.C) dx_self []) ∧ (Q (.bl (Ow.adj .Cut quotient rest divisor negative)) H)
def sp_Near_adjust {K : PySem.W.Frag} {mg : Str → Option Value} (T : Tx K mg) : Sp := fun vs H Q E => ∃ (self : Addr) (quotient : Int) (rest : Int) (divisor : Int) (negative : Bool) (dx_self : Addr), vs = [.ref self, .int quotient, .int rest, .int divisor, .bl negative] ∧ H self = some (.ins (T.k_Near.C) dx_self []) ∧ (Q (.bl (Ow.adj .Near quotient rest divisor negative)) H)
def sp_Way_rounded {K : PySem.W.Frag} {mg : Str → Option Value} (T : Tx K mg) : Sp := fun vs H Q E => ∃ (self : Addr) (top : Int) (bottom : Int) (wy : Ow.F_Way) (dx_self : Addr), vs = [.ref self, .int top, .int bottom] ∧ H self = some (.ins (Ow.cls_Way T wy) dx_self []) ∧ Ow.Sz 4000 top ∧ (0 < bottom) ∧ Ow.Sz 4000 bottom ∧ (∀ (f : Int), (f = Ow.rnd wy top bottom) → (Ow.Sz 4002 f) → ∀ H', Same H H' → Q (.int (f)) H')
def sp_Plain_least {K : PySem.W.Frag} {mg : Str → Option Value} (T : Tx K mg) : Sp := fun vs H Q E => ∃ (self : Addr) (width : Int) (point : Int) (dx_self : Addr), vs = [.ref self] ∧ H self = some (.ins (T.k_Plain.C) dx_self [(("width" : Str), V.int (width)), (("point" : Str), V.int (point))]) ∧ (4 ≤ width) ∧ (width ≤ 32) ∧ (Q (.int (0)) H)
def sp_Kind_least {K : PySem.W.Frag} {mg : Str → Option Value} (T : Tx K mg) : Sp := fun vs H Q E => ∃ (self : Addr) (width : Int) (point : Int) (wy : Ow.F_Kind) (dx_self : Addr), vs = [.ref self] ∧ H self = some (.ins (Ow.cls_Kind T wy) dx_self [(("width" : Str), V.int (width)), (("point" : Str), V.int (point))]) ∧ (4 ≤ width) ∧ (width ≤ 32) ∧ (Q (.int (0 - 2 ^ (width - 1).toNat)) H)
def sp_Plain_greatest {K : PySem.W.Frag} {mg : Str → Option Value} (T : Tx K mg) : Sp := fun vs H Q E => ∃ (self : Addr) (width : Int) (point : Int) (dx_self : Addr), vs = [.ref self] ∧ H self = some (.ins (T.k_Plain.C) dx_self [(("width" : Str), V.int (width)), (("point" : Str), V.int (point))]) ∧ (4 ≤ width) ∧ (width ≤ 32) ∧ (Q (.int (2 ^ width.toNat - 1)) H)
def sp_Kind_greatest {K : PySem.W.Frag} {mg : Str → Option Value} (T : Tx K mg) : Sp := fun vs H Q E => ∃ (self : Addr) (width : Int) (point : Int) (wy : Ow.F_Kind) (dx_self : Addr), vs = [.ref self] ∧ H self = some (.ins (Ow.cls_Kind T wy) dx_self [(("width" : Str), V.int (width)), (("point" : Str), V.int (point))]) ∧ (4 ≤ width) ∧ (width ≤ 32) ∧ (Q (.int (2 ^ (width - 1).toNat - 1)) H)
def sp_Kind_is_count {K : PySem.W.Frag} {mg : Str → Option Value} (T : Tx K mg) : Sp := fun vs H Q E => ∃ (self : Addr) (number : Int) (kd : Ow.Tf_Kind) (dx_self : Addr), vs = [.ref self, .int number] ∧ H self = some (.ins (Ow.cls_Kind T (Ow.kn_Kind kd)) dx_self (Ow.fl_Kind kd)) ∧ (Ow.KOk kd) ∧ (∀ (b : Bool), (b = true ↔ Ow.kl kd ≤ number ∧ number ≤ Ow.kg kd) → ∀ H', Same H H' → Q (.bl (b)) H')
def sp_Kind_bits_of {K : PySem.W.Frag} {mg : Str → Option Value} (T : Tx K mg) : Sp := fun vs H Q E => ∃ (self : Addr) (count : Int) (kd : Ow.Tf_Kind) (dx_self : Addr), vs = [.ref self, .int count] ∧ H self = some (.ins (Ow.cls_Kind T (Ow.kn_Kind kd)) dx_self (Ow.fl_Kind kd)) ∧ (Ow.KOk kd) ∧ (Ow.kl kd ≤ count) ∧ (count ≤ Ow.kg kd) ∧ (∀ H', Same H H' → Q (.int (count % 2 ^ (Ow.kw kd).toNat)) H')
def sp_Kind_stop_at {K : PySem.W.Frag} {mg : Str → Option Value} (T : Tx K mg) : Sp := fun vs H Q E => ∃ (self : Addr) (number : Int) (kd : Ow.Tf_Kind) (dx_self : Addr), vs = [.ref self, .int number] ∧ H self = some (.ins (Ow.cls_Kind T (Ow.kn_Kind kd)) dx_self (Ow.fl_Kind kd)) ∧ (Ow.KOk kd) ∧ (∀ (b : Bool), (b = true ↔ ¬ (Ow.kl kd ≤ number ∧ number ≤ Ow.kg kd)) → ∀ aq H', Same H H' → H aq = none → H' aq = some (.tup [.int (Ow.knr kd number % 2 ^ (Ow.kw kd).toNat), .bl (b)]) → Q (.ref aq) H')
def sp_Kind_go_round {K : PySem.W.Frag} {mg : Str → Option Value} (T : Tx K mg) : Sp := fun vs H Q E => ∃ (self : Addr) (number : Int) (kd : Ow.Tf_Kind) (dx_self : Addr), vs = [.ref self, .int number] ∧ H self = some (.ins (Ow.cls_Kind T (Ow.kn_Kind kd)) dx_self (Ow.fl_Kind kd)) ∧ (Ow.KOk kd) ∧ (∀ (b : Bool), (b = true ↔ ¬ (Ow.kl kd ≤ number ∧ number ≤ Ow.kg kd)) → ∀ aq H', Same H H' → H aq = none → H' aq = some (.tup [.int (number % 2 ^ (Ow.kw kd).toNat), .bl (b)]) → Q (.ref aq) H')
def sp_into {K : PySem.W.Frag} {mg : Str → Option Value} (T : Tx K mg) : Sp := fun vs H Q E => ∃ (kind : Addr) (way : Addr) (top : Int) (bottom : Int) (stops : Bool) (kd : Ow.Tf_Kind) (wy : Ow.F_Way) (dx_kind : Addr) (dx_way : Addr), vs = [.ref kind, .ref way, .int top, .int bottom, .bl stops] ∧ H kind = some (.ins (Ow.cls_Kind T (Ow.kn_Kind kd)) dx_kind (Ow.fl_Kind kd)) ∧ (Ow.KOk kd) ∧ H way = some (.ins (Ow.cls_Way T wy) dx_way []) ∧ Ow.Sz 2600 top ∧ (0 < bottom) ∧ Ow.Sz 4000 bottom ∧ (∀ (b : Int), ∀ (mk : Str), (b = Ow.ibits kd (Ow.rnd wy (top * 2 ^ (Ow.kp kd).toNat) bottom) stops) → (mk = Ow.imark kd (Ow.rnd wy (top * 2 ^ (Ow.kp kd).toNat) bottom) stops) → ∀ aq H', Same H H' → H aq = none → H' aq = some (.tup [.int (b), .str (mk)]) → Q (.ref aq) H')
def sp_l_whole {K : PySem.W.Frag} {mg : Str → Option Value} (T : Tx K mg) : Sp := fun vs H Q E => ∃ (found : Int), vs = [.int found] ∧ (Q (.bl (true)) H)
def sp_l_good {K : PySem.W.Frag} {mg : Str → Option Value} (T : Tx K mg) : Sp := fun vs H Q E => ∃ (found : Addr) (due : Addr) (f : Int) (m : Str) (g : Int) (l : Str), vs = [.ref found, .ref due] ∧ H found = some (.tup [.int (f), .str (m)]) ∧ H due = some (.tup [.int (g), .str (l)]) ∧ (f = g) ∧ (m = l) ∧ (m = "" ∨ m = "stop" ∨ m = "round") ∧ (∀ H', Same H H' → Q (.bl (true)) H')
def sp_l_due {K : PySem.W.Frag} {mg : Str → Option Value} (T : Tx K mg) : Sp := fun vs H Q E => ∃ (sort : Int) (width : Int) (number : Int) (stops : Bool) (kd : Ow.Tf_Kind), vs = [.int sort, .int width, .int number, .bl stops] ∧ (sort = Ow.ks kd) ∧ (width = Ow.kw kd) ∧ (Ow.KOk kd) ∧ (∀ (b : Int), ∀ (mk : Str), (b = Ow.ibits kd number stops) → (mk = Ow.imark kd number stops) → ∀ aq H', Same H H' → H aq = none → H' aq = some (.tup [.int (b), .str (mk)]) → Q (.ref aq) H')
def sp_l_one {K : PySem.W.Frag} {mg : Str → Option Value} (T : Tx K mg) : Sp := fun vs H Q E => ∃ (cell : Int) (ways : Addr) (o0 : Addr) (o1 : Addr) (o2 : Addr) (o3 : Addr) (dx_o0 : Addr) (dx_o1 : Addr) (dx_o2 : Addr) (dx_o3 : Addr), vs = [.int cell, .ref ways] ∧ H ways = some (.lst [.ref o0, .ref o1, .ref o2, .ref o3]) ∧ H o0 = some (.ins (T.k_Down.C) dx_o0 []) ∧ H o1 = some (.ins (T.k_Up.C) dx_o1 []) ∧ H o2 = some (.ins (T.k_Cut.C) dx_o2 []) ∧ H o3 = some (.ins (T.k_Near.C) dx_o3 []) ∧ (∀ H', Same H H' → Q (.bl (true)) H')
def sp_l_cell {K : PySem.W.Frag} {mg : Str → Option Value} (T : Tx K mg) : Sp := fun vs H Q E => ∃ (script : Addr) (k : Int) (ns : List Int), vs = [.ref script, .int k] ∧ SqL K H script (ns.map V.int) ∧ (0 ≤ k) ∧ (k < 100) ∧ (∀ (x : Int), Q (.int (x)) H)
def sp_law (K : PySem.W.Frag) : Sp := fun vs H Q E => ∃ (script : Addr) (ns : List Int), vs = [.ref script] ∧ SqL K H script (ns.map V.int) ∧ (ns.length ≤ 63) ∧ (∀ H', Same H H' → Q (.bl (true)) H')
section
variable {P : Program} {w : World} {K : PySem.W.Frag} {mg : Str → Option Value} {base : Heap}
theorem ok_all_ways (T : Tx K mg) : FnOk P w K mg base CX0 1 T.d_all_ways.f T.d_all_ways.fd [] (sp_all_ways T) := by
  refine T.d_all_ways.F.ok sc_all_ways (fun vs H Q E h => ?_) (fun cdv A outer s H vs Q E hr h => ?_)
  · obtain ⟨rfl, _⟩ := h
    rfl
  · obtain ⟨rfl, kont⟩ := h
    refine ⟨_, (pss_one (ps_ret (pe_lst (pa_cons pe_str (pa_cons pe_str (pa_cons pe_str (pa_cons pe_str pa_nil))))))), ?_⟩
    refine ⟨by show 4 ≤ sizeLine; decide, fun p h_p => ?_⟩
    exact kont _ h_p
theorem ok_way_of (T : Tx K mg) : FnOk P w K mg base CX0 3 T.d_way_of.f T.d_way_of.fd ["word"] (sp_way_of T) := by
  refine T.d_way_of.F.ok sc_way_of (fun vs H Q E h => ?_) (fun cdv A outer s H vs Q E hr h => ?_)
  · obtain ⟨word, wy, rfl, _⟩ := h
    rfl
  · obtain ⟨word, wy, rfl, c0, kont⟩ := h
    refine ⟨_, (pss_cons (ps_if (PW.pt (pw_or (pt_not (pt_val (pe_callB call_isi (by rfl) T.z_isinstance (by decide +kernel) (pa_cons (pv 0) (pa_cons (pe_bltn (v := .ty "str") (by rfl) T.z_str (by decide +kernel) rfl) pa_nil))))) (pw_or1 (pt_cmpR op_notIn_seq (pv 0) (pe_call0 (Ow.ok_all_ways T) (hr.mono (by decide : 1 ≤ 2)) (by rfl) T.d_all_ways.m T.d_all_ways.F.kp T.d_all_ways.b .nil pass0) rfl)))) (pss_one ps_never) pss_nil)
        (pss_cons (ps_if (pt_cmpR op_eq (pv 0) pe_str (nomark _)) (pss_one (ps_ret (Ow.pe_make00 T.m0_Down (by rfl) T.k_Down.m))) pss_nil)
        (pss_cons (ps_if (pt_cmpR op_eq (pv 0) pe_str (nomark _)) (pss_one (ps_ret (Ow.pe_make00 T.m0_Up (by rfl) T.k_Up.m))) pss_nil)
        (pss_cons (ps_if (pt_cmpR op_eq (pv 0) pe_str (nomark _)) (pss_one (ps_ret (Ow.pe_make00 T.m0_Cut (by rfl) T.k_Cut.m))) pss_nil)
        (pss_one (ps_ret (Ow.pe_make00 T.m0_Near (by rfl) T.k_Near.m))))))), ?_⟩
    cases wy
    · obtain rfl : word = "down" := by assumption
      refine ⟨_, rfl, ?_⟩
      refine ⟨_, _, _, _, true, rfl, .ty _, .base (.str _), kit_ty (by decide +kernel), ?_⟩
      refine ⟨_, rfl, ?_⟩
      refine iteF ?_
      refine ⟨_, rfl, ?_⟩
      refine ⟨rfl, fun p h_p => ?_⟩
      refine ⟨_, _, rfl, .inl (SqL.of upd_same), rfl, rfl, ?_⟩
      refine ⟨false, by decide +kernel, ?_⟩
      refine iteF ?_
      refine ⟨_, rfl, ?_⟩
      refine ⟨rfl, ?_⟩
      refine ⟨_, rfl, ?_⟩
      refine Ow.ifeqs (fun _ => ?_) (fun h => absurd rfl h)
      intro o dx h1 h2 h3
      exact kont _ _ _ (((Ow.same_new h_p).trans (Ow.same_new h2)).trans (Ow.same_new (Ow.free2 h3 h1))) (Same.free (Ow.same_new h_p) h1) upd_same
    · obtain rfl : word = "up" := by assumption
      refine ⟨_, rfl, ?_⟩
      refine ⟨_, _, _, _, true, rfl, .ty _, .base (.str _), kit_ty (by decide +kernel), ?_⟩
      refine ⟨_, rfl, ?_⟩
      refine iteF ?_
      refine ⟨_, rfl, ?_⟩
      refine ⟨rfl, fun p_2 h_p_2 => ?_⟩
      refine ⟨_, _, rfl, .inl (SqL.of upd_same), rfl, rfl, ?_⟩
      refine ⟨false, by decide +kernel, ?_⟩
      refine iteF ?_
      refine ⟨_, rfl, ?_⟩
      refine ⟨rfl, ?_⟩
      refine ⟨_, rfl, ?_⟩
      refine Ow.ifeqs (fun h => absurd h (by decide +kernel)) (fun _ => ?_)
      refine ⟨_, rfl, ?_⟩
      refine ⟨rfl, ?_⟩
      refine ⟨_, rfl, ?_⟩
      refine Ow.ifeqs (fun _ => ?_) (fun h => absurd rfl h)
      intro o_2 dx_2 h4 h5 h6
      exact kont _ _ _ (((Ow.same_new h_p_2).trans (Ow.same_new h5)).trans (Ow.same_new (Ow.free2 h6 h4))) (Same.free (Ow.same_new h_p_2) h4) upd_same
    · obtain rfl : word = "cut" := by assumption
      refine ⟨_, rfl, ?_⟩
      refine ⟨_, _, _, _, true, rfl, .ty _, .base (.str _), kit_ty (by decide +kernel), ?_⟩
      refine ⟨_, rfl, ?_⟩
      refine iteF ?_
      refine ⟨_, rfl, ?_⟩
      refine ⟨rfl, fun p_3 h_p_3 => ?_⟩
      refine ⟨_, _, rfl, .inl (SqL.of upd_same), rfl, rfl, ?_⟩
      refine ⟨false, by decide +kernel, ?_⟩
      refine iteF ?_
      refine ⟨_, rfl, ?_⟩
      refine ⟨rfl, ?_⟩
      refine ⟨_, rfl, ?_⟩
      refine Ow.ifeqs (fun h => absurd h (by decide +kernel)) (fun _ => ?_)
      refine ⟨_, rfl, ?_⟩
      refine ⟨rfl, ?_⟩
      refine ⟨_, rfl, ?_⟩
      refine Ow.ifeqs (fun h => absurd h (by decide +kernel)) (fun _ => ?_)
      refine ⟨_, rfl, ?_⟩
      refine ⟨rfl, ?_⟩
      refine ⟨_, rfl, ?_⟩
      refine Ow.ifeqs (fun _ => ?_) (fun h => absurd rfl h)
      intro o_3 dx_3 h7 h8 h9
      exact kont _ _ _ (((Ow.same_new h_p_3).trans (Ow.same_new h8)).trans (Ow.same_new (Ow.free2 h9 h7))) (Same.free (Ow.same_new h_p_3) h7) upd_same
    · obtain rfl : word = "near" := by assumption
      refine ⟨_, rfl, ?_⟩
      refine ⟨_, _, _, _, true, rfl, .ty _, .base (.str _), kit_ty (by decide +kernel), ?_⟩
      refine ⟨_, rfl, ?_⟩
      refine iteF ?_
      refine ⟨_, rfl, ?_⟩
      refine ⟨rfl, fun p_4 h_p_4 => ?_⟩
      refine ⟨_, _, rfl, .inl (SqL.of upd_same), rfl, rfl, ?_⟩
      refine ⟨false, by decide +kernel, ?_⟩
      refine iteF ?_
      refine ⟨_, rfl, ?_⟩
      refine ⟨rfl, ?_⟩
      refine ⟨_, rfl, ?_⟩
      refine Ow.ifeqs (fun h => absurd h (by decide +kernel)) (fun _ => ?_)
      refine ⟨_, rfl, ?_⟩
      refine ⟨rfl, ?_⟩
      refine ⟨_, rfl, ?_⟩
      refine Ow.ifeqs (fun h => absurd h (by decide +kernel)) (fun _ => ?_)
      refine ⟨_, rfl, ?_⟩
      refine ⟨rfl, ?_⟩
      refine ⟨_, rfl, ?_⟩
      refine Ow.ifeqs (fun h => absurd h (by decide +kernel)) (fun _ => ?_)
      intro o_4 dx_4 h10 h11 h12
      exact kont _ _ _ (((Ow.same_new h_p_4).trans (Ow.same_new h11)).trans (Ow.same_new (Ow.free2 h12 h10))) (Same.free (Ow.same_new h_p_4) h10) upd_same
theorem ok_l_begun (T : Tx K mg) : FnOk P w K mg base CX0 1 T.d_l_begun.f T.d_l_begun.fd ["_law_cell_here"] (sp_l_begun T) := by
  refine T.d_l_begun.F.ok sc_l_begun (fun vs H Q E h => ?_) (fun cdv A outer s H vs Q E hr h => ?_)
  · obtain ⟨cell, rfl, _⟩ := h
    rfl
  · obtain ⟨cell, rfl, kont⟩ := h
    refine ⟨_, (pss_cons (ps_set (i := 1) sc_l_begun.nd rfl (Or.inl rfl) pe_int)
        (pss_cons (ps_if (pt_cmpR op_ge (pv 0) (Ow.pe_lit (1000000000000000000) (pe_op op_pow pe_int pe_int)) (nomark _)) (pss_one (ps_set (i := 1) sc_l_begun.nd rfl (Or.inl rfl) (pv 0))) pss_nil)
        (pss_one (ps_ret (pe_lst (pa_cons (pv 1) (pa_cons pe_int (pa_cons (pe_op Ow.op_modN (pv 0) pe_int) pa_nil)))))))), ?_⟩
    refine ⟨_, rfl, ?_⟩
    refine ⟨_, _, rfl, rfl, ⟨by decide, by decide, by decide⟩, ?_⟩
    refine ⟨by decide, ?_⟩
    refine ⟨_, _, rfl, rfl, ?_⟩
    refine ⟨_, rfl, ?_⟩
    refine Ow.ifd (fun h1 => ?_) (fun h1 => ?_)
    · refine ⟨_, rfl, ?_⟩
      refine ⟨_, rfl, ?_⟩
      refine ⟨_, rfl, ?_⟩
      refine ⟨_, _, rfl, rfl, (by walk_at "o2"), fun r h_r h0_r h1_r => ?_⟩
      refine ⟨by show 3 ≤ sizeLine; decide, fun p h_p => ?_⟩
      exact kont cell r _ h_p
    · refine ⟨_, rfl, ?_⟩
      refine ⟨_, rfl, ?_⟩
      refine ⟨_, _, rfl, rfl, (by walk_at "o2"), fun r_2 h_r_2 h0_r_2 h1_r_2 => ?_⟩
      refine ⟨by show 3 ≤ sizeLine; decide, fun p_2 h_p_2 => ?_⟩
      exact kont 0 r_2 _ h_p_2
theorem ok_l_draw (T : Tx K mg) : FnOk P w K mg base CX0 1 T.d_l_draw.f T.d_l_draw.fd ["_law_state", "_law_many"] (sp_l_draw T) := by
  refine T.d_l_draw.F.ok sc_l_draw (fun vs H Q E h => ?_) (fun cdv A outer s H vs Q E hr h => ?_)
  · obtain ⟨box, many, a, n, c, rfl, _⟩ := h
    rfl
  · obtain ⟨box, many, a, n, c, rfl, c0, c1, c2, kont⟩ := h
    refine ⟨_, (pss_cons (ps_if (pt_cmpR op_gt (pe_ix ix_list (pv 0) pe_int (fun _ _ => rfl)) pe_int (nomark _)) (pss_cons (ps_set (i := 2) sc_l_draw.nd rfl (Or.inl rfl) (pe_op Ow.op_modN (pe_ix ix_list (pv 0) pe_int (fun _ _ => rfl)) (pv 1)))
        (pss_cons (ps_asg (pe_op Ow.op_divN (pe_ix ix_list (pv 0) pe_int (fun _ _ => rfl)) (pv 1)) (pg_sub (pv 0) pe_int set_list))
        (pss_one (ps_ret (pv 2))))) pss_nil)
        (pss_cons (ps_asg (Ow.pe_nmi (pe_op op_add (pe_ix ix_list (pv 0) pe_int (fun _ _ => rfl)) pe_int)) (pg_sub (pv 0) pe_int set_list))
        (pss_cons (ps_set (i := 3) sc_l_draw.nd rfl (Or.inl rfl) (pe_op Ow.op_modN (pe_op op_add (pe_op Ow.op_mulN (pe_ix ix_list (pv 0) pe_int (fun _ _ => rfl)) pe_int) (pe_op Ow.op_mulN (pe_ix ix_list (pv 0) pe_int (fun _ _ => rfl)) pe_int)) pe_int))
        (pss_cons (ps_set (i := 3) sc_l_draw.nd rfl (Or.inl rfl) (pe_op Ow.op_modN (pe_op op_add (pe_op Ow.op_mulN (pv 3) (pv 3)) (pe_op Ow.op_mulN (pe_ix ix_list (pv 0) pe_int (fun _ _ => rfl)) pe_int)) pe_int))
        (pss_one (ps_ret (pe_op Ow.op_modN (pe_op Ow.op_modN (pe_op Ow.op_mulN (pv 3) (pv 3)) pe_int) (pv 1)))))))), ?_⟩
    refine ⟨_, rfl, ?_⟩
    refine ⟨_, _, _, _, rfl, rfl, (SqL.of c0), (by first | rfl | decide), ?_⟩
    refine ⟨_, _, rfl, rfl, ?_⟩
    refine ⟨_, rfl, ?_⟩
    refine Ow.ifd (fun h1 => ?_) (fun h1 => ?_)
    · refine ⟨_, rfl, ?_⟩
      refine ⟨_, _, _, _, rfl, rfl, (SqL.of c0), (by first | rfl | decide), ?_⟩
      refine ⟨_, rfl, ?_⟩
      refine ⟨_, _, rfl, rfl, (by walk_at "o2"), fun l_found h_l_found h0_l_found h1_l_found => ?_⟩
      refine ⟨_, rfl, ?_⟩
      refine ⟨_, _, _, _, rfl, rfl, (SqL.of c0), (by first | rfl | decide), ?_⟩
      refine ⟨_, rfl, ?_⟩
      refine ⟨_, _, rfl, rfl, (by walk_at "o2"), fun q h_q => ?_⟩
      refine ⟨_, rfl, ?_⟩
      refine ⟨_, _, _, 0, rfl, rfl, c0, rfl, ?_⟩
      refine ⟨_, rfl, ?_⟩
      exact kont l_found q n (by walk_at "o2") (by walk_at "o2")
    · refine ⟨_, rfl, ?_⟩
      refine ⟨_, _, _, _, rfl, rfl, (SqL.of c0), (by first | rfl | decide), ?_⟩
      refine ⟨_, _, rfl, rfl, ?_⟩
      refine ⟨_, rfl, fun t h_t => ?_⟩
      refine ⟨_, rfl, ?_⟩
      refine ⟨_, _, _, 1, rfl, rfl, c0, rfl, ?_⟩
      refine ⟨_, rfl, ?_⟩
      refine ⟨_, _, _, _, rfl, rfl, (SqL.of upd_same), (by first | rfl | decide), ?_⟩
      refine ⟨_, _, rfl, rfl, (by walk_at "o2"), fun m h_m => ?_⟩
      refine ⟨_, rfl, ?_⟩
      refine ⟨_, _, _, _, rfl, rfl, (SqL.of upd_same), (by first | rfl | decide), ?_⟩
      refine ⟨_, _, rfl, rfl, (by walk_at "o2"), fun m_2 h_m_2 => ?_⟩
      refine ⟨_, _, rfl, rfl, ?_⟩
      refine ⟨_, _, rfl, rfl, (by walk_at "o2"), fun l_number_here h_l_number_here h0_l_number_here h1_l_number_here => ?_⟩
      refine ⟨_, rfl, ?_⟩
      refine ⟨_, rfl, ?_⟩
      refine ⟨_, _, rfl, rfl, (.inr (Ow.mulx (Ow.Sz.md h0_l_number_here h1_l_number_here (Ow.Sz.lit (n := 31) (i := 2147483647) (by decide))) (Ow.Sz.md h0_l_number_here h1_l_number_here (Ow.Sz.lit (n := 31) (i := 2147483647) (by decide))) (by decide))), fun m_3 h_m_3 => ?_⟩
      have z_m_3 : Ow.Sz 62 m_3 := by rw [h_m_3]; exact (Ow.Sz.mul (Ow.Sz.md h0_l_number_here h1_l_number_here (Ow.Sz.lit (n := 31) (i := 2147483647) (by decide))) (Ow.Sz.md h0_l_number_here h1_l_number_here (Ow.Sz.lit (n := 31) (i := 2147483647) (by decide))))
      refine ⟨_, rfl, ?_⟩
      refine ⟨_, _, _, _, rfl, rfl, (SqL.of upd_same), (by first | rfl | decide), ?_⟩
      refine ⟨_, _, rfl, rfl, (by walk_at "o2"), fun m_4 h_m_4 => ?_⟩
      refine ⟨_, _, rfl, rfl, ?_⟩
      refine ⟨_, _, rfl, rfl, (by walk_at "o2"), fun l_number_here_2 h_l_number_here_2 h0_l_number_here_2 h1_l_number_here_2 => ?_⟩
      refine ⟨_, rfl, ?_⟩
      refine ⟨_, rfl, ?_⟩
      refine ⟨_, _, rfl, rfl, (.inr (Ow.mulx (Ow.Sz.md h0_l_number_here_2 h1_l_number_here_2 (Ow.Sz.lit (n := 31) (i := 2147483629) (by decide))) (Ow.Sz.md h0_l_number_here_2 h1_l_number_here_2 (Ow.Sz.lit (n := 31) (i := 2147483629) (by decide))) (by decide))), fun m_5 h_m_5 => ?_⟩
      have z_m_5 : Ow.Sz 62 m_5 := by rw [h_m_5]; exact (Ow.Sz.mul (Ow.Sz.md h0_l_number_here_2 h1_l_number_here_2 (Ow.Sz.lit (n := 31) (i := 2147483629) (by decide))) (Ow.Sz.md h0_l_number_here_2 h1_l_number_here_2 (Ow.Sz.lit (n := 31) (i := 2147483629) (by decide))))
      refine ⟨_, _, rfl, rfl, (by walk_at "o2"), fun r h_r h0_r h1_r => ?_⟩
      refine ⟨_, rfl, ?_⟩
      refine ⟨_, _, rfl, rfl, (by walk_at "o2"), fun r_2 h_r_2 h0_r_2 h1_r_2 => ?_⟩
      exact kont r_2 a t (by walk_at "o2") (by walk_at "o2")
theorem ok_l_number (T : Tx K mg) : FnOk P w K mg base CX0 2 T.d_l_number.f T.d_l_number.fd ["_law_state"] (sp_l_number T) := by
  refine T.d_l_number.F.ok sc_l_number (fun vs H Q E h => ?_) (fun cdv A outer s H vs Q E hr h => ?_)
  · obtain ⟨box, a, n, c, rfl, _⟩ := h
    rfl
  · obtain ⟨box, a, n, c, rfl, c0, kont⟩ := h
    refine ⟨_, (pss_cons (ps_set (i := 1) sc_l_number.nd rfl (Or.inl rfl) (pe_call (Ow.ok_l_draw T) (hr.mono (by decide : 1 ≤ 1)) (by rfl) T.d_l_draw.m T.d_l_draw.F.kp T.d_l_draw.b .nil pass0 (pa_cons (pv 0) (pa_cons pe_int pa_nil))))
        (pss_cons (ps_if (pt_cmpR op_eq (pv 1) pe_int (nomark _)) (pss_one (ps_set (i := 2) sc_l_number.nd rfl (Or.inl rfl) (pe_call (Ow.ok_l_draw T) (hr.mono (by decide : 1 ≤ 1)) (by rfl) T.d_l_draw.m T.d_l_draw.F.kp T.d_l_draw.b .nil pass0 (pa_cons (pv 0) (pa_cons pe_int pa_nil))))) (pss_one (ps_if (pt_cmpR op_eq (pv 1) pe_int (nomark _)) (pss_one (ps_set (i := 2) sc_l_number.nd rfl (Or.inl rfl) (Ow.pe_nmi (pe_op op_add (pe_op Ow.op_mulN (pe_call (Ow.ok_l_draw T) (hr.mono (by decide : 1 ≤ 1)) (by rfl) T.d_l_draw.m T.d_l_draw.F.kp T.d_l_draw.b .nil pass0 (pa_cons (pv 0) (pa_cons pe_int pa_nil))) (Ow.pe_lit (1000000000) (pe_op op_pow pe_int pe_int))) (pe_call (Ow.ok_l_draw T) (hr.mono (by decide : 1 ≤ 1)) (by rfl) T.d_l_draw.m T.d_l_draw.F.kp T.d_l_draw.b .nil pass0 (pa_cons (pv 0) (pa_cons pe_int pa_nil))))))) (pss_one (ps_if (pt_cmpR op_eq (pv 1) pe_int (nomark _)) (pss_one (ps_set (i := 2) sc_l_number.nd rfl (Or.inl rfl) (Ow.pe_nmi (pe_op op_add (pe_op Ow.op_shlN (pe_call (Ow.ok_l_draw T) (hr.mono (by decide : 1 ≤ 1)) (by rfl) T.d_l_draw.m T.d_l_draw.F.kp T.d_l_draw.b .nil pass0 (pa_cons (pv 0) (pa_cons pe_int pa_nil))) (pe_call (Ow.ok_l_draw T) (hr.mono (by decide : 1 ≤ 1)) (by rfl) T.d_l_draw.m T.d_l_draw.F.kp T.d_l_draw.b .nil pass0 (pa_cons (pv 0) (pa_cons pe_int pa_nil)))) (pe_call (Ow.ok_l_draw T) (hr.mono (by decide : 1 ≤ 1)) (by rfl) T.d_l_draw.m T.d_l_draw.F.kp T.d_l_draw.b .nil pass0 (pa_cons (pv 0) (pa_cons pe_int pa_nil))))))) (pss_one (ps_set (i := 2) sc_l_number.nd rfl (Or.inl rfl) (pe_call (Ow.ok_l_draw T) (hr.mono (by decide : 1 ≤ 1)) (by rfl) T.d_l_draw.m T.d_l_draw.F.kp T.d_l_draw.b .nil pass0 (pa_cons (pv 0) (pa_cons pe_int pa_nil))))))))))
        (pss_cons (ps_if (pt_cmpR op_eq (pe_call (Ow.ok_l_draw T) (hr.mono (by decide : 1 ≤ 1)) (by rfl) T.d_l_draw.m T.d_l_draw.F.kp T.d_l_draw.b .nil pass0 (pa_cons (pv 0) (pa_cons pe_int pa_nil))) pe_int (nomark _)) (pss_one (ps_set (i := 2) sc_l_number.nd rfl (Or.inl rfl) (Ow.pe_nmi (pe_op op_sub pe_int (pv 2))))) pss_nil)
        (pss_one (ps_ret (pv 2)))))), ?_⟩
    refine ⟨_, rfl, ?_⟩
    refine ⟨_, _, _, _, _, rfl, c0, (by walk_at "o2"), (by walk_at "o2"), fun l_way a2 n2 h1 h2 => ?_⟩
    refine ⟨_, rfl, ?_⟩
    refine ⟨rfl, ?_⟩
    refine ⟨_, rfl, ?_⟩
    refine Ow.ifeqi (fun h3 => ?_) (fun h3 => ?_)
    · refine ⟨_, rfl, ?_⟩
      refine ⟨_, _, _, _, _, rfl, upd_same, (by walk_at "o2"), (by walk_at "o2"), fun l_number_here a2_2 n2_2 h4 h5 => ?_⟩
      refine ⟨_, rfl, ?_⟩
      refine ⟨_, _, _, _, _, rfl, upd_same, (by walk_at "o2"), (by walk_at "o2"), fun t a2_3 n2_3 h6 h7 => ?_⟩
      refine ⟨rfl, ?_⟩
      refine ⟨_, rfl, ?_⟩
      refine Ow.ifeqi (fun h8 => ?_) (fun h8 => ?_)
      · refine ⟨_, rfl, ?_⟩
        refine ⟨_, _, rfl, rfl, ?_⟩
        refine ⟨_, rfl, fun l_number_here_2 h_l_number_here_2 => ?_⟩
        have z_l_number_here_2 : Ow.Sz 4 l_number_here_2 := by rw [h_l_number_here_2]; exact (Ow.Sz.sub (Ow.Sz.mono (Ow.Sz.lit (n := 1) (i := 0) (by decide)) (by decide : 1 ≤ 3)) (Ow.Sz.rng (n := 3) h4 h5 (by decide)))
        refine ⟨_, rfl, ?_⟩
        exact kont l_number_here_2 a2_3 n2_3 (Ow.Sz.mono z_l_number_here_2 (by decide : 4 ≤ 2440)) _ (((Ow.Fm.refl.mut).mut).mut) upd_same
      · refine ⟨_, rfl, ?_⟩
        exact kont l_number_here a2_3 n2_3 (Ow.Sz.mono (Ow.Sz.rng (n := 3) h4 h5 (by decide)) (by decide : 3 ≤ 2440)) _ (((Ow.Fm.refl.mut).mut).mut) upd_same
    · refine ⟨_, rfl, ?_⟩
      refine ⟨rfl, ?_⟩
      refine ⟨_, rfl, ?_⟩
      refine Ow.ifeqi (fun h9 => ?_) (fun h9 => ?_)
      · refine ⟨_, rfl, ?_⟩
        refine ⟨_, _, _, _, _, rfl, upd_same, (by walk_at "o2"), (by walk_at "o2"), fun t_2 a2_4 n2_4 h10 h11 => ?_⟩
        refine ⟨_, _, rfl, rfl, ⟨by decide, by decide, by decide⟩, ?_⟩
        refine ⟨by decide, ?_⟩
        refine ⟨_, _, rfl, rfl, (.inr (Ow.mulx (Ow.Sz.rng (n := 20) h10 h11 (by decide)) (Ow.Sz.lit (n := 30) (i := 1000000000) (by decide)) (by decide))), fun m h_m => ?_⟩
        have z_m : Ow.Sz 50 m := by rw [h_m]; exact (Ow.Sz.mul (Ow.Sz.rng (n := 20) h10 h11 (by decide)) (Ow.Sz.lit (n := 30) (i := 1000000000) (by decide)))
        refine ⟨_, rfl, ?_⟩
        refine ⟨_, _, _, _, _, rfl, upd_same, (by walk_at "o2"), (by walk_at "o2"), fun t_3 a2_5 n2_5 h12 h13 => ?_⟩
        refine ⟨_, _, rfl, rfl, ?_⟩
        refine ⟨_, rfl, fun l_number_here_3 h_l_number_here_3 => ?_⟩
        have z_l_number_here_3 : Ow.Sz 51 l_number_here_3 := by rw [h_l_number_here_3]; exact (Ow.Sz.add z_m (Ow.Sz.mono (Ow.Sz.rng (n := 30) h12 h13 (by decide)) (by decide : 30 ≤ 50)))
        refine ⟨_, rfl, ?_⟩
        refine ⟨_, _, _, _, _, rfl, upd_same, (by walk_at "o2"), (by walk_at "o2"), fun t_4 a2_6 n2_6 h14 h15 => ?_⟩
        refine ⟨rfl, ?_⟩
        refine ⟨_, rfl, ?_⟩
        refine Ow.ifeqi (fun h16 => ?_) (fun h16 => ?_)
        · refine ⟨_, rfl, ?_⟩
          refine ⟨_, _, rfl, rfl, ?_⟩
          refine ⟨_, rfl, fun l_number_here_4 h_l_number_here_4 => ?_⟩
          have z_l_number_here_4 : Ow.Sz 52 l_number_here_4 := by rw [h_l_number_here_4]; exact (Ow.Sz.sub (Ow.Sz.mono (Ow.Sz.lit (n := 1) (i := 0) (by decide)) (by decide : 1 ≤ 51)) z_l_number_here_3)
          refine ⟨_, rfl, ?_⟩
          exact kont l_number_here_4 a2_6 n2_6 (Ow.Sz.mono z_l_number_here_4 (by decide : 52 ≤ 2440)) _ ((((Ow.Fm.refl.mut).mut).mut).mut) upd_same
        · refine ⟨_, rfl, ?_⟩
          exact kont l_number_here_3 a2_6 n2_6 (Ow.Sz.mono z_l_number_here_3 (by decide : 51 ≤ 2440)) _ ((((Ow.Fm.refl.mut).mut).mut).mut) upd_same
      · refine ⟨_, rfl, ?_⟩
        refine ⟨rfl, ?_⟩
        refine ⟨_, rfl, ?_⟩
        refine Ow.ifeqi (fun h17 => ?_) (fun h17 => ?_)
        · refine ⟨_, rfl, ?_⟩
          refine ⟨_, _, _, _, _, rfl, upd_same, (by walk_at "o2"), (by walk_at "o2"), fun t_5 a2_7 n2_7 h18 h19 => ?_⟩
          refine ⟨_, rfl, ?_⟩
          refine ⟨_, _, _, _, _, rfl, upd_same, (by walk_at "o2"), (by walk_at "o2"), fun t_6 a2_8 n2_8 h20 h21 => ?_⟩
          refine ⟨_, _, rfl, rfl, (.inr (Ow.shlz (n := 2201) (Ow.Sz.rng (n := 20) h18 h19 (by decide)) (by walk_at "o2") (by walk_at "o2") (by decide))), fun s h_s => ?_⟩
          have z_s : Ow.Sz 2222 s := by rw [h_s]; exact (Ow.Sz.shl (n := 2201) (Ow.Sz.rng (n := 20) h18 h19 (by decide)) (by walk_at "o2"))
          refine ⟨_, rfl, ?_⟩
          refine ⟨_, _, _, _, _, rfl, upd_same, (by walk_at "o2"), (by walk_at "o2"), fun t_7 a2_9 n2_9 h22 h23 => ?_⟩
          refine ⟨_, _, rfl, rfl, ?_⟩
          refine ⟨_, rfl, fun l_number_here_5 h_l_number_here_5 => ?_⟩
          have z_l_number_here_5 : Ow.Sz 2223 l_number_here_5 := by rw [h_l_number_here_5]; exact (Ow.Sz.add z_s (Ow.Sz.mono (Ow.Sz.rng (n := 20) h22 h23 (by decide)) (by decide : 20 ≤ 2222)))
          refine ⟨_, rfl, ?_⟩
          refine ⟨_, _, _, _, _, rfl, upd_same, (by walk_at "o2"), (by walk_at "o2"), fun t_8 a2_10 n2_10 h24 h25 => ?_⟩
          refine ⟨rfl, ?_⟩
          refine ⟨_, rfl, ?_⟩
          refine Ow.ifeqi (fun h26 => ?_) (fun h26 => ?_)
          · refine ⟨_, rfl, ?_⟩
            refine ⟨_, _, rfl, rfl, ?_⟩
            refine ⟨_, rfl, fun l_number_here_6 h_l_number_here_6 => ?_⟩
            have z_l_number_here_6 : Ow.Sz 2224 l_number_here_6 := by rw [h_l_number_here_6]; exact (Ow.Sz.sub (Ow.Sz.mono (Ow.Sz.lit (n := 1) (i := 0) (by decide)) (by decide : 1 ≤ 2223)) z_l_number_here_5)
            refine ⟨_, rfl, ?_⟩
            exact kont l_number_here_6 a2_10 n2_10 (Ow.Sz.mono z_l_number_here_6 (by decide : 2224 ≤ 2440)) _ (((((Ow.Fm.refl.mut).mut).mut).mut).mut) upd_same
          · refine ⟨_, rfl, ?_⟩
            exact kont l_number_here_5 a2_10 n2_10 (Ow.Sz.mono z_l_number_here_5 (by decide : 2223 ≤ 2440)) _ (((((Ow.Fm.refl.mut).mut).mut).mut).mut) upd_same
        · refine ⟨_, rfl, ?_⟩
          refine ⟨_, _, _, _, _, rfl, upd_same, (by walk_at "o2"), (by walk_at "o2"), fun l_number_here_7 a2_11 n2_11 h27 h28 => ?_⟩
          refine ⟨_, rfl, ?_⟩
          refine ⟨_, _, _, _, _, rfl, upd_same, (by walk_at "o2"), (by walk_at "o2"), fun t_9 a2_12 n2_12 h29 h30 => ?_⟩
          refine ⟨rfl, ?_⟩
          refine ⟨_, rfl, ?_⟩
          refine Ow.ifeqi (fun h31 => ?_) (fun h31 => ?_)
          · refine ⟨_, rfl, ?_⟩
            refine ⟨_, _, rfl, rfl, ?_⟩
            refine ⟨_, rfl, fun l_number_here_8 h_l_number_here_8 => ?_⟩
            have z_l_number_here_8 : Ow.Sz 7 l_number_here_8 := by rw [h_l_number_here_8]; exact (Ow.Sz.sub (Ow.Sz.mono (Ow.Sz.lit (n := 1) (i := 0) (by decide)) (by decide : 1 ≤ 6)) (Ow.Sz.rng (n := 6) h27 h28 (by decide)))
            refine ⟨_, rfl, ?_⟩
            exact kont l_number_here_8 a2_12 n2_12 (Ow.Sz.mono z_l_number_here_8 (by decide : 7 ≤ 2440)) _ (((Ow.Fm.refl.mut).mut).mut) upd_same
          · refine ⟨_, rfl, ?_⟩
            exact kont l_number_here_7 a2_12 n2_12 (Ow.Sz.mono (Ow.Sz.rng (n := 6) h27 h28 (by decide)) (by decide : 6 ≤ 2440)) _ (((Ow.Fm.refl.mut).mut).mut) upd_same
theorem ok_l_top (T : Tx K mg) : FnOk P w K mg base CX0 3 T.d_l_top.f T.d_l_top.fd ["_law_state", "_law_ends_here", "_law_bottom"] (sp_l_top T) := by
  refine T.d_l_top.F.ok sc_l_top (fun vs H Q E h => ?_) (fun cdv A outer s H vs Q E hr h => ?_)
  · obtain ⟨box, ends, bottom, a, n, c, lo, hi, rfl, _⟩ := h
    rfl
  · obtain ⟨box, ends, bottom, a, n, c, lo, hi, rfl, c0, c1, c2, c3, c4, c5, c6, kont⟩ := h
    refine ⟨_, (pss_cons (ps_if (pt_cmpR op_eq (pe_call (Ow.ok_l_draw T) (hr.mono (by decide : 1 ≤ 2)) (by rfl) T.d_l_draw.m T.d_l_draw.F.kp T.d_l_draw.b .nil pass0 (pa_cons (pv 0) (pa_cons pe_int pa_nil))) pe_int (nomark _)) (pss_one (ps_ret (pe_call (Ow.ok_l_number T) (hr.mono (by decide : 2 ≤ 2)) (by rfl) T.d_l_number.m T.d_l_number.F.kp T.d_l_number.b .nil pass0 (pa_cons (pv 0) pa_nil)))) pss_nil)
        (pss_cons (ps_set (i := 3) sc_l_top.nd rfl (Or.inl rfl) (Ow.pe_nmi (pe_op op_sub (pe_op op_add (pe_ix ix_list (pe_lst (pa_cons pe_int (pa_cons (pe_op Ow.op_divN (pv 2) pe_int) (pa_cons (pe_op op_sub (pv 2) pe_int) pa_nil)))) (pe_call (Ow.ok_l_draw T) (hr.mono (by decide : 1 ≤ 2)) (by rfl) T.d_l_draw.m T.d_l_draw.F.kp T.d_l_draw.b .nil pass0 (pa_cons (pv 0) (pa_cons pe_int pa_nil))) (fun _ _ => rfl)) (pe_call (Ow.ok_l_draw T) (hr.mono (by decide : 1 ≤ 2)) (by rfl) T.d_l_draw.m T.d_l_draw.F.kp T.d_l_draw.b .nil pass0 (pa_cons (pv 0) (pa_cons pe_int pa_nil)))) pe_int)))
        (pss_one (ps_ret (pe_op op_add (pe_op Ow.op_mulN (pe_op op_sub (pe_op op_add (pe_ix ix_list (pv 1) (pe_call (Ow.ok_l_draw T) (hr.mono (by decide : 1 ≤ 2)) (by rfl) T.d_l_draw.m T.d_l_draw.F.kp T.d_l_draw.b .nil pass0 (pa_cons (pv 0) (pa_cons pe_int pa_nil))) (fun _ _ => rfl)) (pe_call (Ow.ok_l_draw T) (hr.mono (by decide : 1 ≤ 2)) (by rfl) T.d_l_draw.m T.d_l_draw.F.kp T.d_l_draw.b .nil pass0 (pa_cons (pv 0) (pa_cons pe_int pa_nil)))) pe_int) (pv 2)) (pv 3)))))), ?_⟩
    refine ⟨_, rfl, ?_⟩
    refine ⟨_, _, _, _, _, rfl, c0, (by walk_at "o2"), (by walk_at "o2"), fun t a2 n2 h1 h2 => ?_⟩
    refine ⟨rfl, ?_⟩
    refine ⟨_, rfl, ?_⟩
    refine Ow.ifeqi (fun h3 => ?_) (fun h3 => ?_)
    · refine ⟨_, rfl, ?_⟩
      refine ⟨_, _, _, _, rfl, upd_same, fun t_2 a2_2 n2_2 h4 Hn h5 h6 => ?_⟩
      exact kont t_2 a2_2 n2_2 (Ow.Sz.mono h4 (by decide : 2440 ≤ 2500)) _ ((Ow.Fm.refl.mut).trans h5) h6
    · refine ⟨_, rfl, ?_⟩
      refine ⟨_, _, rfl, rfl, Ow.divz (by walk_at "o2") (Ow.Sz.lit (n := 2) (i := 2) (by decide)) (by decide) (by decide), fun q h_q => ?_⟩
      have z_q : Ow.Sz 2442 q := by rw [h_q]; exact (Ow.Sz.div c5 (by walk_at "o2"))
      refine ⟨_, rfl, ?_⟩
      refine ⟨_, _, rfl, rfl, ?_⟩
      refine ⟨by show 3 ≤ sizeLine; decide, fun p h_p => ?_⟩
      refine ⟨_, rfl, ?_⟩
      refine ⟨_, _, _, _, _, rfl, (Ow.at_new h_p upd_same), (by walk_at "o2"), (by walk_at "o2"), fun t_3 a2_3 n2_3 h7 h8 => ?_⟩
      refine Ow.ixi3 (SqL.of (Ow.at_mut (Ow.ne_sym (ne_of_none upd_same h_p)) upd_same)) (by walk_at "o2") (fun it h_it => ?_)
      have z_it : Ow.Sz 2443 it := by rcases h_it with ⟨_, rfl⟩ | ⟨_, rfl⟩ | ⟨_, rfl⟩ <;> first | exact (Ow.Sz.mono (Ow.Sz.lit (n := 1) (i := 0) (by decide)) (by decide : 1 ≤ 2443)) | exact (Ow.Sz.mono z_q (by decide : 2442 ≤ 2443)) | exact (Ow.Sz.sub c5 (Ow.Sz.mono (Ow.Sz.lit (n := 1) (i := 1) (by decide)) (by decide : 1 ≤ 2442)))
      refine ⟨_, rfl, ?_⟩
      refine ⟨_, _, _, _, _, rfl, upd_same, (by walk_at "o2"), (by walk_at "o2"), fun t_4 a2_4 n2_4 h9 h10 => ?_⟩
      refine ⟨_, _, rfl, rfl, ?_⟩
      refine ⟨_, _, rfl, rfl, ?_⟩
      refine ⟨_, rfl, fun l_off h_l_off => ?_⟩
      have z_l_off : Ow.Sz 2445 l_off := by rw [h_l_off]; exact (Ow.Sz.sub (Ow.Sz.add z_it (Ow.Sz.mono (Ow.Sz.rng (n := 2) h9 h10 (by decide)) (by decide : 2 ≤ 2443))) (Ow.Sz.mono (Ow.Sz.lit (n := 1) (i := 1) (by decide)) (by decide : 1 ≤ 2444)))
      refine ⟨_, rfl, ?_⟩
      refine ⟨_, rfl, ?_⟩
      refine ⟨_, _, _, _, _, rfl, upd_same, (by walk_at "o2"), (by walk_at "o2"), fun t_5 a2_5 n2_5 h11 h12 => ?_⟩
      refine Ow.ixi2 (SqL.of (Ow.at_mut c6 (Ow.at_mut c6 (Ow.at_mut c6 (Ow.at_new h_p (Ow.at_mut c6 c1)))))) (by walk_at "o2") (fun it_2 h_it_2 => ?_)
      have z_it_2 : Ow.Sz 40 it_2 := by rcases h_it_2 with ⟨_, rfl⟩ | ⟨_, rfl⟩ <;> first | exact c2 | exact c3
      refine ⟨_, rfl, ?_⟩
      refine ⟨_, _, _, _, _, rfl, upd_same, (by walk_at "o2"), (by walk_at "o2"), fun t_6 a2_6 n2_6 h13 h14 => ?_⟩
      refine ⟨_, _, rfl, rfl, ?_⟩
      refine ⟨_, _, rfl, rfl, ?_⟩
      refine ⟨_, rfl, ?_⟩
      refine ⟨_, _, rfl, rfl, (.inr (Ow.mulx (Ow.Sz.sub (Ow.Sz.add z_it_2 (Ow.Sz.mono (Ow.Sz.rng (n := 3) h13 h14 (by decide)) (by decide : 3 ≤ 40))) (Ow.Sz.mono (Ow.Sz.lit (n := 2) (i := 2) (by decide)) (by decide : 2 ≤ 41))) c5 (by decide))), fun m h_m => ?_⟩
      have z_m : Ow.Sz 2484 m := by rw [h_m]; exact (Ow.Sz.mul (Ow.Sz.sub (Ow.Sz.add z_it_2 (Ow.Sz.mono (Ow.Sz.rng (n := 3) h13 h14 (by decide)) (by decide : 3 ≤ 40))) (Ow.Sz.mono (Ow.Sz.lit (n := 2) (i := 2) (by decide)) (by decide : 2 ≤ 41))) c5)
      refine ⟨_, rfl, ?_⟩
      refine ⟨_, _, rfl, rfl, ?_⟩
      exact kont (m + l_off) a2_6 n2_6 (Ow.Sz.mono (Ow.Sz.add z_m (Ow.Sz.mono z_l_off (by decide : 2445 ≤ 2484))) (by decide : 2485 ≤ 2500)) _ ((((((Ow.Fm.refl.mut).same (Ow.same_new h_p)).mut).mut).mut).mut) upd_same
theorem ok_is_whole (T : Tx K mg) : FnOk P w K mg base CX0 1 T.d_is_whole.f T.d_is_whole.fd ["thing"] (sp_is_whole T) := by
  refine T.d_is_whole.F.ok sc_is_whole (fun vs H Q E h => ?_) (fun cdv A outer s H vs Q E hr h => ?_)
  · obtain ⟨thing, rfl, _⟩ := h
    rfl
  · obtain ⟨thing, rfl, kont⟩ := h
    refine ⟨_, (pss_one (ps_ret (pe_and (pe_callB call_isi (by rfl) T.z_isinstance (by decide +kernel) (pa_cons (pv 0) (pa_cons (pe_bltn (v := .ty "int") (by rfl) T.z_int (by decide +kernel) rfl) pa_nil))) (pe_one (pe_not (pe_callB call_isi (by rfl) T.z_isinstance (by decide +kernel) (pa_cons (pv 0) (pa_cons (pe_bltn (v := .ty "bool") (by rfl) T.z_bool (by decide +kernel) rfl) pa_nil)))))))), ?_⟩
    refine ⟨_, rfl, ?_⟩
    refine ⟨_, _, _, _, true, rfl, .ty _, .base (.int _), kit_ty (by decide +kernel), ?_⟩
    refine ⟨_, rfl, ?_⟩
    refine iteT ?_
    refine ⟨_, rfl, ?_⟩
    refine ⟨_, _, _, _, false, rfl, .ty _, .base (.int _), kit_ty (by decide +kernel), ?_⟩
    refine ⟨_, rfl, ?_⟩
    exact kont
theorem ok_need_width (T : Tx K mg) : FnOk P w K mg base CX0 3 T.d_need_width.f T.d_need_width.fd ["width"] (sp_need_width T) := by
  refine T.d_need_width.F.ok sc_need_width (fun vs H Q E h => ?_) (fun cdv A outer s H vs Q E hr h => ?_)
  · obtain ⟨width, rfl, _⟩ := h
    rfl
  · obtain ⟨width, rfl, c0, c1, kont⟩ := h
    have p32_width := Ow.pow2_le32 (w := width) (by omega)
    have p0_width := Ow.p2 width.toNat
    refine ⟨_, (pss_one (ps_if (PW.pt (pw_or (pt_not (pt_val (pe_call (Ow.ok_is_whole T) (hr.mono (by decide : 1 ≤ 2)) (by rfl) T.d_is_whole.m T.d_is_whole.F.kp T.d_is_whole.b .nil pass0 (pa_cons (pv 0) pa_nil)))) (pw_or1 (pt_not (pt_chain op_le op_le (pe_glob (v := .int (4)) rfl T.g_LEAST_WIDTH.choose_spec ⟨_, rfl⟩) (pv 0) (pe_glob (v := .int (32)) rfl T.g_GREATEST_WIDTH.choose_spec ⟨_, rfl⟩)))))) (pss_one ps_never) pss_nil)), ?_⟩
    refine ⟨_, rfl, ?_⟩
    refine ⟨_, rfl, ?_⟩
    refine ⟨_, rfl, ?_⟩
    refine iteF ?_
    refine ⟨_, rfl, ?_⟩
    refine ⟨_, _, rfl, rfl, ?_⟩
    refine ⟨_, rfl, ?_⟩
    refine Ow.ifd (fun h1 => ?_) (fun h1 => ?_)
    · refine ⟨_, _, rfl, rfl, ?_⟩
      refine ⟨_, rfl, ?_⟩
      refine Ow.ifnd (fun h2 => ?_) (fun h2 => ?_)
      · exact ((by walk_at "o2") : False).elim
      · exact kont
    · refine ⟨_, rfl, ?_⟩
      refine iteT ?_
      exact ((by walk_at "o2") : False).elim
theorem ok_Kind___init__ (T : Tx K mg) : FnOk P w K mg base CX0 4 T.d_Kind___init__.f T.d_Kind___init__.fd ["self", "width", "point"] (sp_Kind___init__ T) := by
  refine T.d_Kind___init__.F.ok sc_Kind___init__ (fun vs H Q E h => ?_) (fun cdv A outer s H vs Q E hr h => ?_)
  · obtain ⟨self, width, point, wy, dx_self, rfl, _⟩ := h
    rfl
  · obtain ⟨self, width, point, wy, dx_self, rfl, c0, c1, c2, kont⟩ := h
    have p32_width := Ow.pow2_le32 (w := width) (by omega)
    have p0_width := Ow.p2 width.toNat
    refine ⟨_, (pss_cons (ps_expr (pe_call (Ow.ok_need_width T) (hr.mono (by decide : 3 ≤ 3)) (by rfl) T.d_need_width.m T.d_need_width.F.kp T.d_need_width.b .nil pass0 (pa_cons (pv 1) pa_nil)))
        (pss_cons (ps_fld (pv 0) (pv 1) rfl)
        (pss_one (ps_fld (pv 0) (pv 2) rfl)))), ?_⟩
    refine ⟨_, rfl, ?_⟩
    refine ⟨_, rfl, (by walk_at "o2"), (by walk_at "o2"), ?_⟩
    refine ⟨_, rfl, ?_⟩
    refine ⟨_, rfl, ?_⟩
    refine ⟨_, _, _, _, rfl, c0, (Ow.kcl_Kind T wy), (Ow.kna_Kind_width T wy), (show 0 < 1000 by decide), ?_⟩
    refine ⟨_, rfl, ?_⟩
    refine ⟨_, rfl, ?_⟩
    refine ⟨_, _, _, _, rfl, upd_same, (Ow.kcl_Kind T wy), (Ow.kna_Kind_point T wy), (show 1 < 1000 by decide), ?_⟩
    exact kont _ ((Ow.Fm.refl.mut).mut) upd_same
theorem ok_Pointed___init__ (T : Tx K mg) : FnOk P w K mg base CX0 5 T.d_Pointed___init__.f T.d_Pointed___init__.fd ["self", "width", "point"] (sp_Pointed___init__ T) := by
  refine T.d_Pointed___init__.F.ok sc_Pointed___init__ (fun vs H Q E h => ?_) (fun cdv A outer s H vs Q E hr h => ?_)
  · obtain ⟨self, width, point, dx_self, rfl, _⟩ := h
    rfl
  · obtain ⟨self, width, point, dx_self, rfl, c0, c1, c2, c3, c4, kont⟩ := h
    have p32_width := Ow.pow2_le32 (w := width) (by omega)
    have p0_width := Ow.p2 width.toNat
    refine ⟨_, (pss_cons (ps_expr (Ow.pe_cdef (by rfl) T.k_Kind.m T.cc_Kind___init__.rd T.cc_Kind___init__.cv T.d_Kind___init__.F.kp (Ow.ok_Kind___init__ T) (hr.mono (by decide : 4 ≤ 4)) T.d_Kind___init__.b pass0 (pa_cons (pv 0) (pa_cons (pv 1) (pa_cons pe_int pa_nil)))))
        (pss_cons (ps_if (PW.pt (pw_or (pt_not (pt_val (pe_call (Ow.ok_is_whole T) (hr.mono (by decide : 1 ≤ 4)) (by rfl) T.d_is_whole.m T.d_is_whole.F.kp T.d_is_whole.b .nil pass0 (pa_cons (pv 2) pa_nil)))) (pw_or1 (pt_not (pt_chain op_le op_lt pe_int (pv 2) (pv 1)))))) (pss_one ps_never) pss_nil)
        (pss_one (ps_fld (pv 0) (pv 2) rfl)))), ?_⟩
    refine ⟨_, rfl, ?_⟩
    refine ⟨_, rfl, ?_⟩
    refine ⟨_, _, _, Ow.F_Kind.Pointed, _, rfl, c0, (by walk_at "o2"), (by walk_at "o2"), fun Hn h1 h2 => ?_⟩
    refine ⟨_, rfl, ?_⟩
    refine ⟨_, rfl, ?_⟩
    refine ⟨_, rfl, ?_⟩
    refine iteF ?_
    refine ⟨_, rfl, ?_⟩
    refine ⟨_, _, rfl, rfl, ?_⟩
    refine ⟨_, rfl, ?_⟩
    refine Ow.ifd (fun h3 => ?_) (fun h3 => ?_)
    · refine ⟨_, rfl, ?_⟩
      refine ⟨_, _, rfl, rfl, ?_⟩
      refine ⟨_, rfl, ?_⟩
      refine Ow.ifnd (fun h4 => ?_) (fun h4 => ?_)
      · exact ((by walk_at "o2") : False).elim
      · refine ⟨_, rfl, ?_⟩
        refine ⟨_, rfl, ?_⟩
        refine ⟨_, _, _, _, rfl, h2, T.k_Pointed.cl, T.na_Pointed_point, (show 2 < 1000 by decide), ?_⟩
        exact kont _ ((Ow.Fm.refl.trans h1).mut) upd_same
    · refine ⟨_, rfl, ?_⟩
      refine iteT ?_
      exact ((by walk_at "o2") : False).elim
theorem ok_Plain___init__ (T : Tx K mg) : FnOk P w K mg base CX0 5 T.d_Plain___init__.f T.d_Plain___init__.fd ["self", "width"] (sp_Plain___init__ T) := by
  refine T.d_Plain___init__.F.ok sc_Plain___init__ (fun vs H Q E h => ?_) (fun cdv A outer s H vs Q E hr h => ?_)
  · obtain ⟨self, width, dx_self, rfl, _⟩ := h
    rfl
  · obtain ⟨self, width, dx_self, rfl, c0, c1, c2, kont⟩ := h
    have p32_width := Ow.pow2_le32 (w := width) (by omega)
    have p0_width := Ow.p2 width.toNat
    refine ⟨_, (pss_one (ps_expr (Ow.pe_cdef (by rfl) T.k_Kind.m T.cc_Kind___init__.rd T.cc_Kind___init__.cv T.d_Kind___init__.F.kp (Ow.ok_Kind___init__ T) (hr.mono (by decide : 4 ≤ 4)) T.d_Kind___init__.b pass0 (pa_cons (pv 0) (pa_cons (pv 1) (pa_cons pe_int pa_nil)))))), ?_⟩
    refine ⟨_, rfl, ?_⟩
    refine ⟨_, rfl, ?_⟩
    refine ⟨_, _, _, Ow.F_Kind.Plain, _, rfl, c0, (by walk_at "o2"), (by walk_at "o2"), fun Hn h1 h2 => ?_⟩
    exact kont _ (Ow.Fm.refl.trans h1) h2
theorem ok_Signed___init__ (T : Tx K mg) : FnOk P w K mg base CX0 5 T.d_Signed___init__.f T.d_Signed___init__.fd ["self", "width"] (sp_Signed___init__ T) := by
  refine T.d_Signed___init__.F.ok sc_Signed___init__ (fun vs H Q E h => ?_) (fun cdv A outer s H vs Q E hr h => ?_)
  · obtain ⟨self, width, dx_self, rfl, _⟩ := h
    rfl
  · obtain ⟨self, width, dx_self, rfl, c0, c1, c2, kont⟩ := h
    have p32_width := Ow.pow2_le32 (w := width) (by omega)
    have p0_width := Ow.p2 width.toNat
    refine ⟨_, (pss_one (ps_expr (Ow.pe_cdef (by rfl) T.k_Kind.m T.cc_Kind___init__.rd T.cc_Kind___init__.cv T.d_Kind___init__.F.kp (Ow.ok_Kind___init__ T) (hr.mono (by decide : 4 ≤ 4)) T.d_Kind___init__.b pass0 (pa_cons (pv 0) (pa_cons (pv 1) (pa_cons pe_int pa_nil)))))), ?_⟩
    refine ⟨_, rfl, ?_⟩
    refine ⟨_, rfl, ?_⟩
    refine ⟨_, _, _, Ow.F_Kind.Signed, _, rfl, c0, (by walk_at "o2"), (by walk_at "o2"), fun Hn h1 h2 => ?_⟩
    exact kont _ (Ow.Fm.refl.trans h1) h2
theorem ok_l_kind (T : Tx K mg) : FnOk P w K mg base CX0 7 T.d_l_kind.f T.d_l_kind.fd ["_law_sort", "_law_width", "_law_point"] (sp_l_kind T) := by
  refine T.d_l_kind.F.ok sc_l_kind (fun vs H Q E h => ?_) (fun cdv A outer s H vs Q E hr h => ?_)
  · obtain ⟨sort, width, point, kd, rfl, _⟩ := h
    rfl
  · obtain ⟨sort, width, point, kd, rfl, c0, c1, c2, c3, kont⟩ := h
    refine ⟨_, (pss_cons (ps_if (pt_cmpR op_eq (pv 0) pe_int (nomark _)) (pss_one (ps_ret (pe_make T.mk_Plain (Ow.ok_Plain___init__ T) (hr.mono (by decide : 6 ≤ 6)) (by rfl) T.k_Plain.m T.d_Plain___init__.b .nil pass0 (pa_cons (pv 1) pa_nil)))) pss_nil)
        (pss_cons (ps_if (pt_cmpR op_eq (pv 0) pe_int (nomark _)) (pss_one (ps_ret (pe_make T.mk_Signed (Ow.ok_Signed___init__ T) (hr.mono (by decide : 6 ≤ 6)) (by rfl) T.k_Signed.m T.d_Signed___init__.b .nil pass0 (pa_cons (pv 1) pa_nil)))) pss_nil)
        (pss_one (ps_ret (pe_make T.mk_Pointed (Ow.ok_Pointed___init__ T) (hr.mono (by decide : 6 ≤ 6)) (by rfl) T.k_Pointed.m T.d_Pointed___init__.b .nil pass0 (pa_cons (pv 1) (pa_cons (pv 2) pa_nil))))))), ?_⟩
    rcases kd with ⟨kd_w⟩ | ⟨kd_w_2⟩ | ⟨kd_w_3, kd_p⟩
    · simp only [Ow.ks] at c0
      simp only [Ow.kw] at c1
      simp only [Ow.kp] at c3
      simp only [Ow.KOk] at c2
      subst c1
      subst c3
      have hw4 : 4 ≤ width := by omega
      have hw32 : width ≤ 32 := by omega
      refine ⟨_, rfl, ?_⟩
      refine ⟨rfl, ?_⟩
      refine ⟨_, rfl, ?_⟩
      refine Ow.ifeqi (fun _ => ?_) (fun hz => absurd (by omega) hz)
      refine ⟨_, rfl, ?_⟩
      intro o dx h1 h2 h3
      refine ⟨_, _, _, rfl, upd_same, (by walk_at "o2"), (by walk_at "o2"), fun Hn h4 h5 => ?_⟩
      refine ⟨rfl, ?_⟩
      exact kont _ _ _ (Ow.same_frame ((Ow.same_new h2).trans (Ow.same_new (Ow.free2 h3 h1))) h4 h1) h1 h5
    · simp only [Ow.ks] at c0
      simp only [Ow.kw] at c1
      simp only [Ow.kp] at c3
      simp only [Ow.KOk] at c2
      subst c1
      subst c3
      have hw4 : 4 ≤ width := by omega
      have hw32 : width ≤ 32 := by omega
      refine ⟨_, rfl, ?_⟩
      refine ⟨rfl, ?_⟩
      refine ⟨_, rfl, ?_⟩
      refine Ow.ifeqi (fun hz => (by omega : False).elim) (fun _ => ?_)
      refine ⟨_, rfl, ?_⟩
      refine ⟨rfl, ?_⟩
      refine ⟨_, rfl, ?_⟩
      refine Ow.ifeqi (fun _ => ?_) (fun hz => absurd (by omega) hz)
      refine ⟨_, rfl, ?_⟩
      intro o_2 dx_2 h6 h7 h8
      refine ⟨_, _, _, rfl, upd_same, (by walk_at "o2"), (by walk_at "o2"), fun Hn_2 h9 h10 => ?_⟩
      refine ⟨rfl, ?_⟩
      exact kont _ _ _ (Ow.same_frame ((Ow.same_new h7).trans (Ow.same_new (Ow.free2 h8 h6))) h9 h6) h6 h10
    · simp only [Ow.ks] at c0
      simp only [Ow.kw] at c1
      simp only [Ow.kp] at c3
      simp only [Ow.KOk] at c2
      subst c1
      subst c3
      have hw4 : 4 ≤ width := by omega
      have hw32 : width ≤ 32 := by omega
      refine ⟨_, rfl, ?_⟩
      refine ⟨rfl, ?_⟩
      refine ⟨_, rfl, ?_⟩
      refine Ow.ifeqi (fun hz => (by omega : False).elim) (fun _ => ?_)
      refine ⟨_, rfl, ?_⟩
      refine ⟨rfl, ?_⟩
      refine ⟨_, rfl, ?_⟩
      refine Ow.ifeqi (fun hz => (by omega : False).elim) (fun _ => ?_)
      refine ⟨_, rfl, ?_⟩
      refine ⟨_, rfl, ?_⟩
      intro o_3 dx_3 h11 h12 h13
      refine ⟨_, _, _, _, rfl, upd_same, (by walk_at "o2"), (by walk_at "o2"), (by walk_at "o2"), (by walk_at "o2"), fun Hn_3 h14 h15 => ?_⟩
      refine ⟨rfl, ?_⟩
      exact kont _ _ _ (Ow.same_frame ((Ow.same_new h12).trans (Ow.same_new (Ow.free2 h13 h11))) h14 h11) h11 h15
theorem ok_l_ends (T : Tx K mg) : FnOk P w K mg base CX0 1 T.d_l_ends.f T.d_l_ends.fd ["_law_sort", "_law_width"] (sp_l_ends T) := by
  refine T.d_l_ends.F.ok sc_l_ends (fun vs H Q E h => ?_) (fun cdv A outer s H vs Q E hr h => ?_)
  · obtain ⟨sort, width, kd, rfl, _⟩ := h
    rfl
  · obtain ⟨sort, width, kd, rfl, c0, c1, c2, kont⟩ := h
    refine ⟨_, (pss_cons (ps_if (pt_cmpR op_eq (pv 0) pe_int (nomark _)) (pss_one (ps_ret (pe_lst (pa_cons pe_int (pa_cons (pe_op op_sub (pe_op Ow.op_shl1 pe_int (pv 1)) pe_int) pa_nil))))) pss_nil)
        (pss_one (ps_ret (pe_lst (pa_cons (pe_op op_sub pe_int (pe_op Ow.op_shl1 pe_int (pe_op op_sub (pv 1) pe_int))) (pa_cons (pe_op op_sub (pe_op Ow.op_shl1 pe_int (pe_op op_sub (pv 1) pe_int)) pe_int) pa_nil)))))), ?_⟩
    rcases kd with ⟨kd_w⟩ | ⟨kd_w_2⟩ | ⟨kd_w_3, kd_p⟩
    · simp only [Ow.ks] at c0
      simp only [Ow.kw] at c1
      have hk := Ow.krng c2
      have hl := Ow.kle c2
      have hg := Ow.kge c2
      simp only [Ow.KOk] at c2
      simp only [Ow.kw] at hk
      simp only [Ow.kle1] at hl
      simp only [Ow.kge1] at hg
      refine ⟨_, rfl, ?_⟩
      refine ⟨rfl, ?_⟩
      refine ⟨_, rfl, ?_⟩
      refine Ow.ifeqi (fun _ => ?_) (fun hz => absurd (by omega) hz)
      refine ⟨_, rfl, ?_⟩
      refine ⟨_, rfl, rfl, (by walk_at "o2"), fun B h_B h0_B => ?_⟩
      have z_B : Ow.Sz 33 B := by rw [h_B]; exact Ow.Sz.pow (n := 32) (by walk_at "o2")
      refine ⟨_, _, rfl, rfl, ?_⟩
      refine ⟨by show 2 ≤ sizeLine; decide, fun p h_p => ?_⟩
      exact kont 0 (B - 1) (by walk_at "o2") (by walk_at "o2") (Ow.Sz.mono (Ow.Sz.lit (n := 1) (i := 0) (by decide)) (by decide : 1 ≤ 40)) (Ow.Sz.mono (Ow.Sz.sub z_B (Ow.Sz.mono (Ow.Sz.lit (n := 1) (i := 1) (by decide)) (by decide : 1 ≤ 33))) (by decide : 34 ≤ 40)) _ _ (Ow.same_new h_p) h_p upd_same
    · simp only [Ow.ks] at c0
      simp only [Ow.kw] at c1
      have hk := Ow.krng c2
      have hl := Ow.kle c2
      have hg := Ow.kge c2
      simp only [Ow.KOk] at c2
      simp only [Ow.kw] at hk
      simp only [Ow.kle1] at hl
      simp only [Ow.kge1] at hg
      refine ⟨_, rfl, ?_⟩
      refine ⟨rfl, ?_⟩
      refine ⟨_, rfl, ?_⟩
      refine Ow.ifeqi (fun hz => (by omega : False).elim) (fun _ => ?_)
      refine ⟨_, rfl, ?_⟩
      refine ⟨_, _, rfl, rfl, ?_⟩
      refine ⟨_, rfl, rfl, (by walk_at "o2"), fun B_2 h_B_2 h0_B_2 => ?_⟩
      have z_B_2 : Ow.Sz 33 B_2 := by rw [h_B_2]; exact Ow.Sz.pow (n := 32) (by walk_at "o2")
      refine ⟨_, _, rfl, rfl, ?_⟩
      refine ⟨_, rfl, ?_⟩
      refine ⟨_, _, rfl, rfl, ?_⟩
      refine ⟨_, rfl, rfl, (by walk_at "o2"), fun B_3 h_B_3 h0_B_3 => ?_⟩
      have z_B_3 : Ow.Sz 33 B_3 := by rw [h_B_3]; exact Ow.Sz.pow (n := 32) (by walk_at "o2")
      refine ⟨_, _, rfl, rfl, ?_⟩
      refine ⟨by show 2 ≤ sizeLine; decide, fun p_2 h_p_2 => ?_⟩
      exact kont (0 - B_2) (B_3 - 1) (by walk_at "o2") (by walk_at "o2") (Ow.Sz.mono (Ow.Sz.sub (Ow.Sz.mono (Ow.Sz.lit (n := 1) (i := 0) (by decide)) (by decide : 1 ≤ 33)) z_B_2) (by decide : 34 ≤ 40)) (Ow.Sz.mono (Ow.Sz.sub z_B_3 (Ow.Sz.mono (Ow.Sz.lit (n := 1) (i := 1) (by decide)) (by decide : 1 ≤ 33))) (by decide : 34 ≤ 40)) _ _ (Ow.same_new h_p_2) h_p_2 upd_same
    · simp only [Ow.ks] at c0
      simp only [Ow.kw] at c1
      have hk := Ow.krng c2
      have hl := Ow.kle c2
      have hg := Ow.kge c2
      simp only [Ow.KOk] at c2
      simp only [Ow.kw] at hk
      simp only [Ow.kle1] at hl
      simp only [Ow.kge1] at hg
      refine ⟨_, rfl, ?_⟩
      refine ⟨rfl, ?_⟩
      refine ⟨_, rfl, ?_⟩
      refine Ow.ifeqi (fun hz => (by omega : False).elim) (fun _ => ?_)
      refine ⟨_, rfl, ?_⟩
      refine ⟨_, _, rfl, rfl, ?_⟩
      refine ⟨_, rfl, rfl, (by walk_at "o2"), fun B_4 h_B_4 h0_B_4 => ?_⟩
      have z_B_4 : Ow.Sz 33 B_4 := by rw [h_B_4]; exact Ow.Sz.pow (n := 32) (by walk_at "o2")
      refine ⟨_, _, rfl, rfl, ?_⟩
      refine ⟨_, rfl, ?_⟩
      refine ⟨_, _, rfl, rfl, ?_⟩
      refine ⟨_, rfl, rfl, (by walk_at "o2"), fun B_5 h_B_5 h0_B_5 => ?_⟩
      have z_B_5 : Ow.Sz 33 B_5 := by rw [h_B_5]; exact Ow.Sz.pow (n := 32) (by walk_at "o2")
      refine ⟨_, _, rfl, rfl, ?_⟩
      refine ⟨by show 2 ≤ sizeLine; decide, fun p_3 h_p_3 => ?_⟩
      exact kont (0 - B_4) (B_5 - 1) (by walk_at "o2") (by walk_at "o2") (Ow.Sz.mono (Ow.Sz.sub (Ow.Sz.mono (Ow.Sz.lit (n := 1) (i := 0) (by decide)) (by decide : 1 ≤ 33)) z_B_4) (by decide : 34 ≤ 40)) (Ow.Sz.mono (Ow.Sz.sub z_B_5 (Ow.Sz.mono (Ow.Sz.lit (n := 1) (i := 1) (by decide)) (by decide : 1 ≤ 33))) (by decide : 34 ≤ 40)) _ _ (Ow.same_new h_p_3) h_p_3 upd_same
theorem ok_l_right (T : Tx K mg) : FnOk P w K mg base CX0 1 T.d_l_right.f T.d_l_right.fd ["_law_word", "_law_top_here", "_law_bottom", "_law_found"] (sp_l_right T) := by
  refine T.d_l_right.F.ok sc_l_right (fun vs H Q E h => ?_) (fun cdv A outer s H vs Q E hr h => ?_)
  · obtain ⟨word, top, bottom, found, wy, rfl, _⟩ := h
    rfl
  · obtain ⟨word, top, bottom, found, wy, rfl, c0, c1, c2, c3, c4, kont⟩ := h
    refine ⟨_, (pss_cons (ps_set (i := 4) sc_l_right.nd rfl (Or.inl rfl) (Ow.pe_nmi (pe_op op_sub (pe_op Ow.op_mulN (pv 3) (pv 2)) (pv 1))))
        (pss_cons (ps_if (PW.pt (pw_or (pt_cmpR op_eq (pv 0) pe_str (nomark _)) (pw_or1 (PW.pt (pw_and (pt_cmpR op_eq (pv 0) pe_str (nomark _)) (pw_and1 (pt_cmpR op_ge (pv 1) pe_int (nomark _)))))))) (pss_one (ps_ret (pe_chain op_lt op_le (pe_op op_sub pe_int (pv 2)) (pv 4) pe_int))) pss_nil)
        (pss_cons (ps_if (pt_cmpR op_eq (pv 0) pe_str (nomark _)) (pss_one (ps_ret (pe_or (pe_cmpR op_lt (pe_op Ow.op_mulN pe_int (Ow.pe_nmi (pe_callB call_abs (by rfl) T.z_abs (by decide +kernel) (pa_cons (pv 4) pa_nil)))) (pv 2) (nomark _)) (pe_one (pe_and (pe_cmpR op_eq (pe_op Ow.op_mulN pe_int (Ow.pe_nmi (pe_callB call_abs (by rfl) T.z_abs (by decide +kernel) (pa_cons (pv 4) pa_nil)))) (pv 2) (nomark _)) (pe_one (pe_cmpR op_eq (pe_op Ow.op_modN (pv 3) pe_int) pe_int (nomark _)))))))) pss_nil)
        (pss_one (ps_ret (pe_chain op_le op_lt pe_int (pv 4) (pv 2))))))), ?_⟩
    cases wy
    · obtain rfl : word = "down" := by assumption
      refine ⟨_, rfl, ?_⟩
      refine ⟨_, rfl, ?_⟩
      refine ⟨_, _, rfl, rfl, (.inr (Ow.mulx c4 c3 (by decide))), fun m h_m => ?_⟩
      have z_m : Ow.Sz 8002 m := by rw [h_m]; exact (Ow.Sz.mul c4 c3)
      refine ⟨_, rfl, ?_⟩
      refine ⟨_, _, rfl, rfl, ?_⟩
      refine ⟨_, rfl, fun l_miss h_l_miss => ?_⟩
      have z_l_miss : Ow.Sz 8003 l_miss := by rw [h_l_miss]; exact (Ow.Sz.sub z_m (Ow.Sz.mono c2 (by decide : 4000 ≤ 8002)))
      refine ⟨_, rfl, ?_⟩
      refine ⟨rfl, ?_⟩
      refine ⟨_, rfl, ?_⟩
      refine Ow.ifeqs (fun _ => ?_) (fun h => absurd rfl h)
      refine iteT ?_
      refine ⟨_, rfl, ?_⟩
      refine ⟨_, _, rfl, rfl, ?_⟩
      refine ⟨_, rfl, ?_⟩
      refine ⟨_, _, rfl, rfl, ?_⟩
      refine ⟨_, rfl, ?_⟩
      refine Ow.ifd (fun h1 => ?_) (fun h1 => ?_)
      · refine ⟨_, _, rfl, rfl, ?_⟩
        exact kont (decide (l_miss ≤ 0)) (by unfold Ow.Lies; dsimp only; simp only [Bool.not_eq_true', Bool.false_eq_true, false_iff, true_iff, iff_false, iff_true, decide_eq_true_eq, decide_eq_false_iff_not, V.int.injEq]; omega)
      · exact kont false (by unfold Ow.Lies; dsimp only; simp only [Bool.not_eq_true', Bool.false_eq_true, false_iff, true_iff, iff_false, iff_true, decide_eq_true_eq, decide_eq_false_iff_not, V.int.injEq]; omega)
    · obtain rfl : word = "up" := by assumption
      refine ⟨_, rfl, ?_⟩
      refine ⟨_, rfl, ?_⟩
      refine ⟨_, _, rfl, rfl, (.inr (Ow.mulx c4 c3 (by decide))), fun m_2 h_m_2 => ?_⟩
      have z_m_2 : Ow.Sz 8002 m_2 := by rw [h_m_2]; exact (Ow.Sz.mul c4 c3)
      refine ⟨_, rfl, ?_⟩
      refine ⟨_, _, rfl, rfl, ?_⟩
      refine ⟨_, rfl, fun l_miss_2 h_l_miss_2 => ?_⟩
      have z_l_miss_2 : Ow.Sz 8003 l_miss_2 := by rw [h_l_miss_2]; exact (Ow.Sz.sub z_m_2 (Ow.Sz.mono c2 (by decide : 4000 ≤ 8002)))
      refine ⟨_, rfl, ?_⟩
      refine ⟨rfl, ?_⟩
      refine ⟨_, rfl, ?_⟩
      refine Ow.ifeqs (fun h => absurd h (by decide +kernel)) (fun _ => ?_)
      refine ⟨_, rfl, ?_⟩
      refine ⟨rfl, ?_⟩
      refine ⟨_, rfl, ?_⟩
      refine Ow.ifeqs (fun h => absurd h (by decide +kernel)) (fun _ => ?_)
      refine iteF ?_
      refine ⟨_, rfl, ?_⟩
      refine ⟨rfl, ?_⟩
      refine ⟨_, rfl, ?_⟩
      refine Ow.ifeqs (fun h => absurd h (by decide +kernel)) (fun _ => ?_)
      refine ⟨_, rfl, ?_⟩
      refine ⟨_, _, rfl, rfl, ?_⟩
      refine ⟨_, rfl, ?_⟩
      refine Ow.ifd (fun h2 => ?_) (fun h2 => ?_)
      · refine ⟨_, rfl, ?_⟩
        refine ⟨_, _, rfl, rfl, ?_⟩
        exact kont (decide (l_miss_2 < bottom)) (by unfold Ow.Lies; dsimp only; simp only [Bool.not_eq_true', Bool.false_eq_true, false_iff, true_iff, iff_false, iff_true, decide_eq_true_eq, decide_eq_false_iff_not, V.int.injEq]; omega)
      · exact kont false (by unfold Ow.Lies; dsimp only; simp only [Bool.not_eq_true', Bool.false_eq_true, false_iff, true_iff, iff_false, iff_true, decide_eq_true_eq, decide_eq_false_iff_not, V.int.injEq]; omega)
    · obtain rfl : word = "cut" := by assumption
      refine ⟨_, rfl, ?_⟩
      refine ⟨_, rfl, ?_⟩
      refine ⟨_, _, rfl, rfl, (.inr (Ow.mulx c4 c3 (by decide))), fun m_3 h_m_3 => ?_⟩
      have z_m_3 : Ow.Sz 8002 m_3 := by rw [h_m_3]; exact (Ow.Sz.mul c4 c3)
      refine ⟨_, rfl, ?_⟩
      refine ⟨_, _, rfl, rfl, ?_⟩
      refine ⟨_, rfl, fun l_miss_3 h_l_miss_3 => ?_⟩
      have z_l_miss_3 : Ow.Sz 8003 l_miss_3 := by rw [h_l_miss_3]; exact (Ow.Sz.sub z_m_3 (Ow.Sz.mono c2 (by decide : 4000 ≤ 8002)))
      refine ⟨_, rfl, ?_⟩
      refine ⟨rfl, ?_⟩
      refine ⟨_, rfl, ?_⟩
      refine Ow.ifeqs (fun h => absurd h (by decide +kernel)) (fun _ => ?_)
      refine ⟨_, rfl, ?_⟩
      refine ⟨rfl, ?_⟩
      refine ⟨_, rfl, ?_⟩
      refine Ow.ifeqs (fun _ => ?_) (fun h => absurd rfl h)
      refine ⟨_, rfl, ?_⟩
      refine ⟨_, _, rfl, rfl, ?_⟩
      refine ⟨_, rfl, ?_⟩
      refine Ow.ifd (fun h3 => ?_) (fun h3 => ?_)
      · refine ⟨_, rfl, ?_⟩
        refine ⟨_, _, rfl, rfl, ?_⟩
        refine ⟨_, rfl, ?_⟩
        refine ⟨_, _, rfl, rfl, ?_⟩
        refine ⟨_, rfl, ?_⟩
        refine Ow.ifd (fun h4 => ?_) (fun h4 => ?_)
        · refine ⟨_, _, rfl, rfl, ?_⟩
          exact kont (decide (l_miss_3 ≤ 0)) (by unfold Ow.Lies; dsimp only; simp only [Bool.not_eq_true', Bool.false_eq_true, false_iff, true_iff, iff_false, iff_true, decide_eq_true_eq, decide_eq_false_iff_not, V.int.injEq]; omega)
        · exact kont false (by unfold Ow.Lies; dsimp only; simp only [Bool.not_eq_true', Bool.false_eq_true, false_iff, true_iff, iff_false, iff_true, decide_eq_true_eq, decide_eq_false_iff_not, V.int.injEq]; omega)
      · refine ⟨_, rfl, ?_⟩
        refine ⟨rfl, ?_⟩
        refine ⟨_, rfl, ?_⟩
        refine Ow.ifeqs (fun h => absurd h (by decide +kernel)) (fun _ => ?_)
        refine ⟨_, rfl, ?_⟩
        refine ⟨_, _, rfl, rfl, ?_⟩
        refine ⟨_, rfl, ?_⟩
        refine Ow.ifd (fun h5 => ?_) (fun h5 => ?_)
        · refine ⟨_, rfl, ?_⟩
          refine ⟨_, _, rfl, rfl, ?_⟩
          exact kont (decide (l_miss_3 < bottom)) (by unfold Ow.Lies; dsimp only; simp only [Bool.not_eq_true', Bool.false_eq_true, false_iff, true_iff, iff_false, iff_true, decide_eq_true_eq, decide_eq_false_iff_not, V.int.injEq]; omega)
        · exact kont false (by unfold Ow.Lies; dsimp only; simp only [Bool.not_eq_true', Bool.false_eq_true, false_iff, true_iff, iff_false, iff_true, decide_eq_true_eq, decide_eq_false_iff_not, V.int.injEq]; omega)
    · obtain rfl : word = "near" := by assumption
      refine ⟨_, rfl, ?_⟩
      refine ⟨_, rfl, ?_⟩
      refine ⟨_, _, rfl, rfl, (.inr (Ow.mulx c4 c3 (by decide))), fun m_4 h_m_4 => ?_⟩
      have z_m_4 : Ow.Sz 8002 m_4 := by rw [h_m_4]; exact (Ow.Sz.mul c4 c3)
      refine ⟨_, rfl, ?_⟩
      refine ⟨_, _, rfl, rfl, ?_⟩
      refine ⟨_, rfl, fun l_miss_4 h_l_miss_4 => ?_⟩
      have z_l_miss_4 : Ow.Sz 8003 l_miss_4 := by rw [h_l_miss_4]; exact (Ow.Sz.sub z_m_4 (Ow.Sz.mono c2 (by decide : 4000 ≤ 8002)))
      refine ⟨_, rfl, ?_⟩
      refine ⟨rfl, ?_⟩
      refine ⟨_, rfl, ?_⟩
      refine Ow.ifeqs (fun h => absurd h (by decide +kernel)) (fun _ => ?_)
      refine ⟨_, rfl, ?_⟩
      refine ⟨rfl, ?_⟩
      refine ⟨_, rfl, ?_⟩
      refine Ow.ifeqs (fun h => absurd h (by decide +kernel)) (fun _ => ?_)
      refine iteF ?_
      refine ⟨_, rfl, ?_⟩
      refine ⟨rfl, ?_⟩
      refine ⟨_, rfl, ?_⟩
      refine Ow.ifeqs (fun _ => ?_) (fun h => absurd rfl h)
      refine ⟨_, rfl, ?_⟩
      refine ⟨_, rfl, ?_⟩
      refine ⟨_, rfl, fun ab h_ab => ?_⟩
      have hm_ab := Ow.abs_ite h_ab
      refine ⟨_, _, rfl, rfl, (.inr (Ow.mulx (Ow.Sz.lit (n := 2) (i := 2) (by decide)) (Ow.Sz.abs z_l_miss_4 h_ab) (by decide))), fun m_5 h_m_5 => ?_⟩
      have z_m_5 : Ow.Sz 8005 m_5 := by rw [h_m_5]; exact (Ow.Sz.mul (Ow.Sz.lit (n := 2) (i := 2) (by decide)) (Ow.Sz.abs z_l_miss_4 h_ab))
      refine ⟨_, rfl, ?_⟩
      refine ⟨_, _, rfl, rfl, ?_⟩
      refine ⟨_, rfl, ?_⟩
      refine Ow.ifd (fun h6 => ?_) (fun h6 => ?_)
      · exact kont true (by unfold Ow.Lies; dsimp only; simp only [Bool.not_eq_true', Bool.false_eq_true, false_iff, true_iff, iff_false, iff_true, decide_eq_true_eq, decide_eq_false_iff_not, V.int.injEq]; omega)
      · refine ⟨_, rfl, ?_⟩
        refine ⟨_, rfl, ?_⟩
        refine ⟨_, rfl, fun ab_2 h_ab_2 => ?_⟩
        have hm_ab_2 := Ow.abs_ite h_ab_2
        refine ⟨_, _, rfl, rfl, (.inr (Ow.mulx (Ow.Sz.lit (n := 2) (i := 2) (by decide)) (Ow.Sz.abs z_l_miss_4 h_ab_2) (by decide))), fun m_6 h_m_6 => ?_⟩
        have z_m_6 : Ow.Sz 8005 m_6 := by rw [h_m_6]; exact (Ow.Sz.mul (Ow.Sz.lit (n := 2) (i := 2) (by decide)) (Ow.Sz.abs z_l_miss_4 h_ab_2))
        refine ⟨_, rfl, ?_⟩
        refine ⟨rfl, ?_⟩
        refine ⟨_, rfl, ?_⟩
        refine Ow.ifeqi (fun h7 => ?_) (fun h7 => ?_)
        · refine ⟨_, rfl, ?_⟩
          refine ⟨_, _, rfl, rfl, (by walk_at "o2"), fun r h_r h0_r h1_r => ?_⟩
          refine ⟨rfl, ?_⟩
          exact kont (decide ((V.int (r)) = V.int (0))) (by unfold Ow.Lies; dsimp only; simp only [Bool.not_eq_true', Bool.false_eq_true, false_iff, true_iff, iff_false, iff_true, decide_eq_true_eq, decide_eq_false_iff_not, V.int.injEq]; omega)
        · exact kont false (by unfold Ow.Lies; dsimp only; simp only [Bool.not_eq_true', Bool.false_eq_true, false_iff, true_iff, iff_false, iff_true, decide_eq_true_eq, decide_eq_false_iff_not, V.int.injEq]; omega)
theorem ok_l_whole_of (T : Tx K mg) : FnOk P w K mg base CX0 2 T.d_l_whole_of.f T.d_l_whole_of.fd ["_law_word", "_law_top_here", "_law_bottom"] (sp_l_whole_of T) := by
  refine T.d_l_whole_of.F.ok sc_l_whole_of (fun vs H Q E h => ?_) (fun cdv A outer s H vs Q E hr h => ?_)
  · obtain ⟨word, top, bottom, wy, rfl, _⟩ := h
    rfl
  · obtain ⟨word, top, bottom, wy, rfl, c0, c1, c2, c3, kont⟩ := h
    refine ⟨_, (pss_cons (ps_set (i := 3) sc_l_whole_of.nd rfl (Or.inl rfl) (pe_op Ow.op_divN (pv 1) (pv 2)))
        (pss_cons (ps_if (pt_val (pe_call (Ow.ok_l_right T) (hr.mono (by decide : 1 ≤ 1)) (by rfl) T.d_l_right.m T.d_l_right.F.kp T.d_l_right.b .nil pass0 (pa_cons (pv 0) (pa_cons (pv 1) (pa_cons (pv 2) (pa_cons (pv 3) pa_nil)))))) (pss_one (ps_ret (pv 3))) pss_nil)
        (pss_one (ps_ret (pe_op op_add (pv 3) pe_int))))), ?_⟩
    refine ⟨_, rfl, ?_⟩
    refine ⟨_, rfl, ?_⟩
    refine ⟨_, _, rfl, rfl, Ow.divz (by walk_at "o2") c3 (by decide) (by decide), fun l_number_here h_l_number_here => ?_⟩
    have z_l_number_here : Ow.Sz 4000 l_number_here := by rw [h_l_number_here]; exact (Ow.Sz.div c2 (by walk_at "o2"))
    refine ⟨_, rfl, ?_⟩
    refine ⟨_, rfl, ?_⟩
    refine ⟨_, rfl, ?_⟩
    refine ⟨_, rfl, ?_⟩
    refine ⟨_, _, _, _, _, rfl, (by walk_at "o2"), (by walk_at "o2"), c2, c3, (Ow.Sz.mono z_l_number_here (by decide : 4000 ≤ 4002)), fun t h1 => ?_⟩
    refine ⟨_, rfl, ?_⟩
    refine Ow.ifb (fun h2 => ?_) (fun h2 => ?_)
    · refine ⟨_, rfl, ?_⟩
      exact kont l_number_here (by first | exact Ow.whole_1 (by assumption) (by assumption) (by assumption) (by assumption) | exact Ow.whole_0 (by assumption) (by assumption) (by assumption) (by assumption))
    · refine ⟨_, rfl, ?_⟩
      refine ⟨_, _, rfl, rfl, ?_⟩
      exact kont (l_number_here + 1) (by first | exact Ow.whole_1 (by assumption) (by assumption) (by assumption) (by assumption) | exact Ow.whole_0 (by assumption) (by assumption) (by assumption) (by assumption))
theorem ok_Down_adjust (T : Tx K mg) : FnOk P w K mg base CX0 1 T.d_Down_adjust.f T.d_Down_adjust.fd ["self", "quotient", "rest", "divisor", "negative"] (sp_Down_adjust T) := by
  refine T.d_Down_adjust.F.ok sc_Down_adjust (fun vs H Q E h => ?_) (fun cdv A outer s H vs Q E hr h => ?_)
  · obtain ⟨self, quotient, rest, divisor, negative, dx_self, rfl, _⟩ := h
    rfl
  · obtain ⟨self, quotient, rest, divisor, negative, dx_self, rfl, c0, kont⟩ := h
    refine ⟨_, (pss_one (ps_ret (pe_and (pv 4) (pe_one (pe_cmpR op_gt (pv 2) pe_int (nomark _)))))), ?_⟩
    refine ⟨_, rfl, ?_⟩
    refine ⟨_, rfl, ?_⟩
    refine Ow.ifb (fun h1 => ?_) (fun h1 => ?_)
    · refine ⟨_, rfl, ?_⟩
      refine ⟨_, _, rfl, rfl, ?_⟩
      refine Ow.eqb (b := Ow.adj .Down quotient rest divisor negative) (by first | (unfold Ow.adj; simp only [decide_eq_false (by omega : ¬ 0 < rest), Bool.false_and]) | (unfold Ow.adj; simp only [decide_eq_true (by omega : 0 < rest), Bool.true_and]) | (unfold Ow.adj; rw [if_pos (by omega), h_r]; exact decide_eq_decide.mpr ⟨fun h => V.int.inj h, fun h => by rw [h]⟩) | (unfold Ow.adj; rw [if_neg (by omega)]) | (unfold Ow.adj; simp_all; done)) ?_
      exact kont
    · refine Ow.eqb (b := Ow.adj .Down quotient rest divisor negative) (by first | (unfold Ow.adj; simp only [decide_eq_false (by omega : ¬ 0 < rest), Bool.false_and]) | (unfold Ow.adj; simp only [decide_eq_true (by omega : 0 < rest), Bool.true_and]) | (unfold Ow.adj; rw [if_pos (by omega), h_r]; exact decide_eq_decide.mpr ⟨fun h => V.int.inj h, fun h => by rw [h]⟩) | (unfold Ow.adj; rw [if_neg (by omega)]) | (unfold Ow.adj; simp_all; done)) ?_
      exact kont
theorem ok_Up_adjust (T : Tx K mg) : FnOk P w K mg base CX0 1 T.d_Up_adjust.f T.d_Up_adjust.fd ["self", "quotient", "rest", "divisor", "negative"] (sp_Up_adjust T) := by
  refine T.d_Up_adjust.F.ok sc_Up_adjust (fun vs H Q E h => ?_) (fun cdv A outer s H vs Q E hr h => ?_)
  · obtain ⟨self, quotient, rest, divisor, negative, dx_self, rfl, _⟩ := h
    rfl
  · obtain ⟨self, quotient, rest, divisor, negative, dx_self, rfl, c0, kont⟩ := h
    refine ⟨_, (pss_one (ps_ret (pe_and (pe_cmpR op_gt (pv 2) pe_int (nomark _)) (pe_one (pe_not (pv 4)))))), ?_⟩
    refine ⟨_, rfl, ?_⟩
    refine ⟨_, _, rfl, rfl, ?_⟩
    refine ⟨_, rfl, ?_⟩
    refine Ow.ifd (fun h1 => ?_) (fun h1 => ?_)
    · refine ⟨_, rfl, ?_⟩
      refine ⟨_, rfl, ?_⟩
      refine Ow.eqb (b := Ow.adj .Up quotient rest divisor negative) (by first | (unfold Ow.adj; simp only [decide_eq_false (by omega : ¬ 0 < rest), Bool.false_and]) | (unfold Ow.adj; simp only [decide_eq_true (by omega : 0 < rest), Bool.true_and]) | (unfold Ow.adj; rw [if_pos (by omega), h_r]; exact decide_eq_decide.mpr ⟨fun h => V.int.inj h, fun h => by rw [h]⟩) | (unfold Ow.adj; rw [if_neg (by omega)]) | (unfold Ow.adj; simp_all; done)) ?_
      exact kont
    · refine Ow.eqb (b := Ow.adj .Up quotient rest divisor negative) (by first | (unfold Ow.adj; simp only [decide_eq_false (by omega : ¬ 0 < rest), Bool.false_and]) | (unfold Ow.adj; simp only [decide_eq_true (by omega : 0 < rest), Bool.true_and]) | (unfold Ow.adj; rw [if_pos (by omega), h_r]; exact decide_eq_decide.mpr ⟨fun h => V.int.inj h, fun h => by rw [h]⟩) | (unfold Ow.adj; rw [if_neg (by omega)]) | (unfold Ow.adj; simp_all; done)) ?_
      exact kont
theorem ok_Way_adjust (T : Tx K mg) : FnOk P w K mg base CX0 1 T.d_Way_adjust.f T.d_Way_adjust.fd ["self", "quotient", "rest", "divisor", "negative"] (sp_Way_adjust T) := by
  refine T.d_Way_adjust.F.ok sc_Way_adjust (fun vs H Q E h => ?_) (fun cdv A outer s H vs Q E hr h => ?_)
  · obtain ⟨self, quotient, rest, divisor, negative, dx_self, rfl, _⟩ := h
    rfl
  · obtain ⟨self, quotient, rest, divisor, negative, dx_self, rfl, c0, kont⟩ := h
    refine ⟨_, (pss_one (ps_ret pe_bl)), ?_⟩
    refine Ow.eqb (b := Ow.adj .Cut quotient rest divisor negative) (by first | (unfold Ow.adj; simp only [decide_eq_false (by omega : ¬ 0 < rest), Bool.false_and]) | (unfold Ow.adj; simp only [decide_eq_true (by omega : 0 < rest), Bool.true_and]) | (unfold Ow.adj; rw [if_pos (by omega), h_r]; exact decide_eq_decide.mpr ⟨fun h => V.int.inj h, fun h => by rw [h]⟩) | (unfold Ow.adj; rw [if_neg (by omega)]) | (unfold Ow.adj; simp_all; done)) ?_
    exact kont
theorem ok_Near_adjust (T : Tx K mg) : FnOk P w K mg base CX0 1 T.d_Near_adjust.f T.d_Near_adjust.fd ["self", "quotient", "rest", "divisor", "negative"] (sp_Near_adjust T) := by
  refine T.d_Near_adjust.F.ok sc_Near_adjust (fun vs H Q E h => ?_) (fun cdv A outer s H vs Q E hr h => ?_)
  · obtain ⟨self, quotient, rest, divisor, negative, dx_self, rfl, _⟩ := h
    rfl
  · obtain ⟨self, quotient, rest, divisor, negative, dx_self, rfl, c0, kont⟩ := h
    refine ⟨_, (pss_cons (ps_if (pt_cmpR op_eq (pv 2) (pe_op op_sub (pv 3) (pv 2)) (nomark _)) (pss_one (ps_ret (pe_cmpR op_eq (pe_op Ow.op_modN (pv 1) pe_int) pe_int (nomark _)))) pss_nil)
        (pss_one (ps_ret (pe_cmpR op_gt (pv 2) (pe_op op_sub (pv 3) (pv 2)) (nomark _))))), ?_⟩
    refine ⟨_, rfl, ?_⟩
    refine ⟨_, rfl, ?_⟩
    refine ⟨_, rfl, ?_⟩
    refine ⟨_, _, rfl, rfl, ?_⟩
    refine ⟨rfl, ?_⟩
    refine ⟨_, rfl, ?_⟩
    refine Ow.ifeqi (fun h1 => ?_) (fun h1 => ?_)
    · refine ⟨_, rfl, ?_⟩
      refine ⟨_, _, rfl, rfl, (by walk_at "o2"), fun r h_r h0_r h1_r => ?_⟩
      refine ⟨rfl, ?_⟩
      refine Ow.eqb (b := Ow.adj .Near quotient rest divisor negative) (by first | (unfold Ow.adj; simp only [decide_eq_false (by omega : ¬ 0 < rest), Bool.false_and]) | (unfold Ow.adj; simp only [decide_eq_true (by omega : 0 < rest), Bool.true_and]) | (unfold Ow.adj; rw [if_pos (by omega), h_r]; exact decide_eq_decide.mpr ⟨fun h => V.int.inj h, fun h => by rw [h]⟩) | (unfold Ow.adj; rw [if_neg (by omega)]) | (unfold Ow.adj; simp_all; done)) ?_
      exact kont
    · refine ⟨_, rfl, ?_⟩
      refine ⟨_, rfl, ?_⟩
      refine ⟨_, rfl, ?_⟩
      refine ⟨_, _, rfl, rfl, ?_⟩
      refine ⟨_, _, rfl, rfl, ?_⟩
      refine Ow.eqb (b := Ow.adj .Near quotient rest divisor negative) (by first | (unfold Ow.adj; simp only [decide_eq_false (by omega : ¬ 0 < rest), Bool.false_and]) | (unfold Ow.adj; simp only [decide_eq_true (by omega : 0 < rest), Bool.true_and]) | (unfold Ow.adj; rw [if_pos (by omega), h_r]; exact decide_eq_decide.mpr ⟨fun h => V.int.inj h, fun h => by rw [h]⟩) | (unfold Ow.adj; rw [if_neg (by omega)]) | (unfold Ow.adj; simp_all; done)) ?_
      exact kont
theorem ok_Way_rounded (T : Tx K mg) : FnOk P w K mg base CX0 2 T.d_Way_rounded.f T.d_Way_rounded.fd ["self", "top", "bottom"] (sp_Way_rounded T) := by
  refine T.d_Way_rounded.F.ok sc_Way_rounded (fun vs H Q E h => ?_) (fun cdv A outer s H vs Q E hr h => ?_)
  · obtain ⟨self, top, bottom, wy, dx_self, rfl, _⟩ := h
    rfl
  · obtain ⟨self, top, bottom, wy, dx_self, rfl, c0, c1, c2, c3, kont⟩ := h
    refine ⟨_, (pss_cons (ps_asg (pe_callB Ow.call_dm (by rfl) T.z_divmod (by decide +kernel) (pa_cons (Ow.pe_nmi (pe_callB call_abs (by rfl) T.z_abs (by decide +kernel) (pa_cons (pv 1) pa_nil))) (pa_cons (pv 2) pa_nil))) (pg_tup rfl (pgs_cons (pg_name (i := 3) sc_Way_rounded.nd rfl (Or.inl rfl)) (pgs_cons (pg_name (i := 4) sc_Way_rounded.nd rfl (Or.inl rfl)) pgs_nil))))
        (pss_cons (ps_if (pt_val (Ow.pe_methA (R := fun C sp => (C = T.k_Down.C ∧ sp = sp_Down_adjust T) ∨ (C = T.k_Up.C ∧ sp = sp_Up_adjust T) ∨ (C = T.k_Cut.C ∧ sp = sp_Way_adjust T) ∨ (C = T.k_Near.C ∧ sp = sp_Near_adjust T)) (pv 0) (Ow.mal_or (Ow.mal_one ⟨_, _, _, _, T.k_Down.cl, T.mt_Down_adjust, Ow.ok_Down_adjust T, hr.mono (by decide : 1 ≤ 1), T.d_Down_adjust.b⟩) (Ow.mal_or (Ow.mal_one ⟨_, _, _, _, T.k_Up.cl, T.mt_Up_adjust, Ow.ok_Up_adjust T, hr.mono (by decide : 1 ≤ 1), T.d_Up_adjust.b⟩) (Ow.mal_or (Ow.mal_one ⟨_, _, _, _, T.k_Cut.cl, T.mt_Cut_adjust, Ow.ok_Way_adjust T, hr.mono (by decide : 1 ≤ 1), T.d_Way_adjust.b⟩) (Ow.mal_one ⟨_, _, _, _, T.k_Near.cl, T.mt_Near_adjust, Ow.ok_Near_adjust T, hr.mono (by decide : 1 ≤ 1), T.d_Near_adjust.b⟩)))) pass0 (pa_cons (pv 3) (pa_cons (pv 4) (pa_cons (pv 2) (pa_cons (pe_cmpR op_lt (pv 1) pe_int (nomark _)) pa_nil)))))) (pss_one (ps_set (i := 3) sc_Way_rounded.nd rfl (Or.inl rfl) (Ow.pe_nmi (pe_op op_add (pv 3) pe_int)))) pss_nil)
        (pss_cons (ps_if (pt_cmpR op_lt (pv 1) pe_int (nomark _)) (pss_one (ps_ret (pe_op op_sub pe_int (pv 3)))) pss_nil)
        (pss_one (ps_ret (pv 3)))))), ?_⟩
    cases wy
    · refine ⟨_, rfl, ?_⟩
      refine ⟨_, rfl, ?_⟩
      refine ⟨_, rfl, fun ab h_ab => ?_⟩
      have hm_ab := Ow.abs_ite h_ab
      refine ⟨_, rfl, ?_⟩
      refine ⟨_, _, rfl, (Ow.dmz (by walk_at "o2") (Ow.Sz.abs c1 h_ab) (by decide)), fun q r p h_q h_r h0_r h1_r h_p => ?_⟩
      have z_q : Ow.Sz 4000 q := by rw [h_q]; exact Ow.Sz.div (Ow.Sz.abs c1 h_ab) (by walk_at "o2")
      refine ⟨_, _, rfl, (SqT.of upd_same), rfl, ?_⟩
      refine ⟨_, _, rfl, ?_⟩
      refine ⟨_, _, rfl, ?_⟩
      refine ⟨rfl, ?_⟩
      refine ⟨_, rfl, ?_⟩
      refine ⟨_, _, _, _, _, rfl, .inl ⟨rfl, rfl⟩, (Ow.at_new h_p c0), rfl, ?_⟩
      refine ⟨_, rfl, ?_⟩
      refine ⟨_, rfl, ?_⟩
      refine ⟨_, rfl, ?_⟩
      refine ⟨_, rfl, ?_⟩
      refine ⟨_, _, rfl, rfl, ?_⟩
      refine ⟨_, _, _, _, _, _, rfl, (Ow.at_new h_p c0), ?_⟩
      refine ⟨_, rfl, ?_⟩
      refine Ow.ifb (fun h1 => ?_) (fun h1 => ?_)
      · refine ⟨_, rfl, ?_⟩
        refine ⟨_, _, rfl, rfl, ?_⟩
        refine ⟨_, rfl, fun quotient h_quotient => ?_⟩
        have z_quotient : Ow.Sz 4001 quotient := by rw [h_quotient]; exact (Ow.Sz.add z_q (Ow.Sz.mono (Ow.Sz.lit (n := 1) (i := 1) (by decide)) (by decide : 1 ≤ 4000)))
        refine ⟨_, rfl, ?_⟩
        refine ⟨_, _, rfl, rfl, ?_⟩
        refine ⟨_, rfl, ?_⟩
        refine Ow.ifd (fun h2 => ?_) (fun h2 => ?_)
        · refine ⟨_, rfl, ?_⟩
          refine ⟨_, _, rfl, rfl, ?_⟩
          first | have e := Ow.rnd_neg (t := top) (b := bottom) (by assumption) (by assumption) (by assumption) (by assumption) (by assumption) | have e := Ow.rnd_pos (t := top) (b := bottom) (by assumption) (by assumption) (by assumption) (by assumption) (by assumption)
          exact kont (0 - quotient) (by first | (rw [e]; simp only [if_true, Bool.false_eq_true, if_false]; done) | (rw [e]; simp only [if_true, Bool.false_eq_true, if_false]; omega)) (Ow.Sz.sub (Ow.Sz.mono (Ow.Sz.lit (n := 1) (i := 0) (by decide)) (by decide : 1 ≤ 4001)) z_quotient) _ (Ow.same_new h_p)
        · refine ⟨_, rfl, ?_⟩
          first | have e := Ow.rnd_neg (t := top) (b := bottom) (by assumption) (by assumption) (by assumption) (by assumption) (by assumption) | have e := Ow.rnd_pos (t := top) (b := bottom) (by assumption) (by assumption) (by assumption) (by assumption) (by assumption)
          exact kont quotient (by first | (rw [e]; simp only [if_true, Bool.false_eq_true, if_false]; done) | (rw [e]; simp only [if_true, Bool.false_eq_true, if_false]; omega)) (Ow.Sz.mono z_quotient (by decide : 4001 ≤ 4002)) _ (Ow.same_new h_p)
      · refine ⟨_, rfl, ?_⟩
        refine ⟨_, _, rfl, rfl, ?_⟩
        refine ⟨_, rfl, ?_⟩
        refine Ow.ifd (fun h3 => ?_) (fun h3 => ?_)
        · refine ⟨_, rfl, ?_⟩
          refine ⟨_, _, rfl, rfl, ?_⟩
          first | have e := Ow.rnd_neg (t := top) (b := bottom) (by assumption) (by assumption) (by assumption) (by assumption) (by assumption) | have e := Ow.rnd_pos (t := top) (b := bottom) (by assumption) (by assumption) (by assumption) (by assumption) (by assumption)
          exact kont (0 - q) (by first | (rw [e]; simp only [if_true, Bool.false_eq_true, if_false]; done) | (rw [e]; simp only [if_true, Bool.false_eq_true, if_false]; omega)) (Ow.Sz.mono (Ow.Sz.sub (Ow.Sz.mono (Ow.Sz.lit (n := 1) (i := 0) (by decide)) (by decide : 1 ≤ 4000)) z_q) (by decide : 4001 ≤ 4002)) _ (Ow.same_new h_p)
        · refine ⟨_, rfl, ?_⟩
          first | have e := Ow.rnd_neg (t := top) (b := bottom) (by assumption) (by assumption) (by assumption) (by assumption) (by assumption) | have e := Ow.rnd_pos (t := top) (b := bottom) (by assumption) (by assumption) (by assumption) (by assumption) (by assumption)
          exact kont q (by first | (rw [e]; simp only [if_true, Bool.false_eq_true, if_false]; done) | (rw [e]; simp only [if_true, Bool.false_eq_true, if_false]; omega)) (Ow.Sz.mono z_q (by decide : 4000 ≤ 4002)) _ (Ow.same_new h_p)
    · refine ⟨_, rfl, ?_⟩
      refine ⟨_, rfl, ?_⟩
      refine ⟨_, rfl, fun ab_2 h_ab_2 => ?_⟩
      have hm_ab_2 := Ow.abs_ite h_ab_2
      refine ⟨_, rfl, ?_⟩
      refine ⟨_, _, rfl, (Ow.dmz (by walk_at "o2") (Ow.Sz.abs c1 h_ab_2) (by decide)), fun q_2 r_2 p_2 h_q_2 h_r_2 h0_r_2 h1_r_2 h_p_2 => ?_⟩
      have z_q_2 : Ow.Sz 4000 q_2 := by rw [h_q_2]; exact Ow.Sz.div (Ow.Sz.abs c1 h_ab_2) (by walk_at "o2")
      refine ⟨_, _, rfl, (SqT.of upd_same), rfl, ?_⟩
      refine ⟨_, _, rfl, ?_⟩
      refine ⟨_, _, rfl, ?_⟩
      refine ⟨rfl, ?_⟩
      refine ⟨_, rfl, ?_⟩
      refine ⟨_, _, _, _, _, rfl, .inr (.inl ⟨rfl, rfl⟩), (Ow.at_new h_p_2 c0), rfl, ?_⟩
      refine ⟨_, rfl, ?_⟩
      refine ⟨_, rfl, ?_⟩
      refine ⟨_, rfl, ?_⟩
      refine ⟨_, rfl, ?_⟩
      refine ⟨_, _, rfl, rfl, ?_⟩
      refine ⟨_, _, _, _, _, _, rfl, (Ow.at_new h_p_2 c0), ?_⟩
      refine ⟨_, rfl, ?_⟩
      refine Ow.ifb (fun h4 => ?_) (fun h4 => ?_)
      · refine ⟨_, rfl, ?_⟩
        refine ⟨_, _, rfl, rfl, ?_⟩
        refine ⟨_, rfl, fun quotient_2 h_quotient_2 => ?_⟩
        have z_quotient_2 : Ow.Sz 4001 quotient_2 := by rw [h_quotient_2]; exact (Ow.Sz.add z_q_2 (Ow.Sz.mono (Ow.Sz.lit (n := 1) (i := 1) (by decide)) (by decide : 1 ≤ 4000)))
        refine ⟨_, rfl, ?_⟩
        refine ⟨_, _, rfl, rfl, ?_⟩
        refine ⟨_, rfl, ?_⟩
        refine Ow.ifd (fun h5 => ?_) (fun h5 => ?_)
        · refine ⟨_, rfl, ?_⟩
          refine ⟨_, _, rfl, rfl, ?_⟩
          first | have e := Ow.rnd_neg (t := top) (b := bottom) (by assumption) (by assumption) (by assumption) (by assumption) (by assumption) | have e := Ow.rnd_pos (t := top) (b := bottom) (by assumption) (by assumption) (by assumption) (by assumption) (by assumption)
          exact kont (0 - quotient_2) (by first | (rw [e]; simp only [if_true, Bool.false_eq_true, if_false]; done) | (rw [e]; simp only [if_true, Bool.false_eq_true, if_false]; omega)) (Ow.Sz.sub (Ow.Sz.mono (Ow.Sz.lit (n := 1) (i := 0) (by decide)) (by decide : 1 ≤ 4001)) z_quotient_2) _ (Ow.same_new h_p_2)
        · refine ⟨_, rfl, ?_⟩
          first | have e := Ow.rnd_neg (t := top) (b := bottom) (by assumption) (by assumption) (by assumption) (by assumption) (by assumption) | have e := Ow.rnd_pos (t := top) (b := bottom) (by assumption) (by assumption) (by assumption) (by assumption) (by assumption)
          exact kont quotient_2 (by first | (rw [e]; simp only [if_true, Bool.false_eq_true, if_false]; done) | (rw [e]; simp only [if_true, Bool.false_eq_true, if_false]; omega)) (Ow.Sz.mono z_quotient_2 (by decide : 4001 ≤ 4002)) _ (Ow.same_new h_p_2)
      · refine ⟨_, rfl, ?_⟩
        refine ⟨_, _, rfl, rfl, ?_⟩
        refine ⟨_, rfl, ?_⟩
        refine Ow.ifd (fun h6 => ?_) (fun h6 => ?_)
        · refine ⟨_, rfl, ?_⟩
          refine ⟨_, _, rfl, rfl, ?_⟩
          first | have e := Ow.rnd_neg (t := top) (b := bottom) (by assumption) (by assumption) (by assumption) (by assumption) (by assumption) | have e := Ow.rnd_pos (t := top) (b := bottom) (by assumption) (by assumption) (by assumption) (by assumption) (by assumption)
          exact kont (0 - q_2) (by first | (rw [e]; simp only [if_true, Bool.false_eq_true, if_false]; done) | (rw [e]; simp only [if_true, Bool.false_eq_true, if_false]; omega)) (Ow.Sz.mono (Ow.Sz.sub (Ow.Sz.mono (Ow.Sz.lit (n := 1) (i := 0) (by decide)) (by decide : 1 ≤ 4000)) z_q_2) (by decide : 4001 ≤ 4002)) _ (Ow.same_new h_p_2)
        · refine ⟨_, rfl, ?_⟩
          first | have e := Ow.rnd_neg (t := top) (b := bottom) (by assumption) (by assumption) (by assumption) (by assumption) (by assumption) | have e := Ow.rnd_pos (t := top) (b := bottom) (by assumption) (by assumption) (by assumption) (by assumption) (by assumption)
          exact kont q_2 (by first | (rw [e]; simp only [if_true, Bool.false_eq_true, if_false]; done) | (rw [e]; simp only [if_true, Bool.false_eq_true, if_false]; omega)) (Ow.Sz.mono z_q_2 (by decide : 4000 ≤ 4002)) _ (Ow.same_new h_p_2)
    · refine ⟨_, rfl, ?_⟩
      refine ⟨_, rfl, ?_⟩
      refine ⟨_, rfl, fun ab_3 h_ab_3 => ?_⟩
      have hm_ab_3 := Ow.abs_ite h_ab_3
      refine ⟨_, rfl, ?_⟩
      refine ⟨_, _, rfl, (Ow.dmz (by walk_at "o2") (Ow.Sz.abs c1 h_ab_3) (by decide)), fun q_3 r_3 p_3 h_q_3 h_r_3 h0_r_3 h1_r_3 h_p_3 => ?_⟩
      have z_q_3 : Ow.Sz 4000 q_3 := by rw [h_q_3]; exact Ow.Sz.div (Ow.Sz.abs c1 h_ab_3) (by walk_at "o2")
      refine ⟨_, _, rfl, (SqT.of upd_same), rfl, ?_⟩
      refine ⟨_, _, rfl, ?_⟩
      refine ⟨_, _, rfl, ?_⟩
      refine ⟨rfl, ?_⟩
      refine ⟨_, rfl, ?_⟩
      refine ⟨_, _, _, _, _, rfl, .inr (.inr (.inl ⟨rfl, rfl⟩)), (Ow.at_new h_p_3 c0), rfl, ?_⟩
      refine ⟨_, rfl, ?_⟩
      refine ⟨_, rfl, ?_⟩
      refine ⟨_, rfl, ?_⟩
      refine ⟨_, rfl, ?_⟩
      refine ⟨_, _, rfl, rfl, ?_⟩
      refine ⟨_, _, _, _, _, _, rfl, (Ow.at_new h_p_3 c0), ?_⟩
      refine ⟨_, rfl, ?_⟩
      refine Ow.ifb (fun h7 => ?_) (fun h7 => ?_)
      · refine ⟨_, rfl, ?_⟩
        refine ⟨_, _, rfl, rfl, ?_⟩
        refine ⟨_, rfl, fun quotient_3 h_quotient_3 => ?_⟩
        have z_quotient_3 : Ow.Sz 4001 quotient_3 := by rw [h_quotient_3]; exact (Ow.Sz.add z_q_3 (Ow.Sz.mono (Ow.Sz.lit (n := 1) (i := 1) (by decide)) (by decide : 1 ≤ 4000)))
        refine ⟨_, rfl, ?_⟩
        refine ⟨_, _, rfl, rfl, ?_⟩
        refine ⟨_, rfl, ?_⟩
        refine Ow.ifd (fun h8 => ?_) (fun h8 => ?_)
        · refine ⟨_, rfl, ?_⟩
          refine ⟨_, _, rfl, rfl, ?_⟩
          first | have e := Ow.rnd_neg (t := top) (b := bottom) (by assumption) (by assumption) (by assumption) (by assumption) (by assumption) | have e := Ow.rnd_pos (t := top) (b := bottom) (by assumption) (by assumption) (by assumption) (by assumption) (by assumption)
          exact kont (0 - quotient_3) (by first | (rw [e]; simp only [if_true, Bool.false_eq_true, if_false]; done) | (rw [e]; simp only [if_true, Bool.false_eq_true, if_false]; omega)) (Ow.Sz.sub (Ow.Sz.mono (Ow.Sz.lit (n := 1) (i := 0) (by decide)) (by decide : 1 ≤ 4001)) z_quotient_3) _ (Ow.same_new h_p_3)
        · refine ⟨_, rfl, ?_⟩
          first | have e := Ow.rnd_neg (t := top) (b := bottom) (by assumption) (by assumption) (by assumption) (by assumption) (by assumption) | have e := Ow.rnd_pos (t := top) (b := bottom) (by assumption) (by assumption) (by assumption) (by assumption) (by assumption)
          exact kont quotient_3 (by first | (rw [e]; simp only [if_true, Bool.false_eq_true, if_false]; done) | (rw [e]; simp only [if_true, Bool.false_eq_true, if_false]; omega)) (Ow.Sz.mono z_quotient_3 (by decide : 4001 ≤ 4002)) _ (Ow.same_new h_p_3)
      · refine ⟨_, rfl, ?_⟩
        refine ⟨_, _, rfl, rfl, ?_⟩
        refine ⟨_, rfl, ?_⟩
        refine Ow.ifd (fun h9 => ?_) (fun h9 => ?_)
        · refine ⟨_, rfl, ?_⟩
          refine ⟨_, _, rfl, rfl, ?_⟩
          first | have e := Ow.rnd_neg (t := top) (b := bottom) (by assumption) (by assumption) (by assumption) (by assumption) (by assumption) | have e := Ow.rnd_pos (t := top) (b := bottom) (by assumption) (by assumption) (by assumption) (by assumption) (by assumption)
          exact kont (0 - q_3) (by first | (rw [e]; simp only [if_true, Bool.false_eq_true, if_false]; done) | (rw [e]; simp only [if_true, Bool.false_eq_true, if_false]; omega)) (Ow.Sz.mono (Ow.Sz.sub (Ow.Sz.mono (Ow.Sz.lit (n := 1) (i := 0) (by decide)) (by decide : 1 ≤ 4000)) z_q_3) (by decide : 4001 ≤ 4002)) _ (Ow.same_new h_p_3)
        · refine ⟨_, rfl, ?_⟩
          first | have e := Ow.rnd_neg (t := top) (b := bottom) (by assumption) (by assumption) (by assumption) (by assumption) (by assumption) | have e := Ow.rnd_pos (t := top) (b := bottom) (by assumption) (by assumption) (by assumption) (by assumption) (by assumption)
          exact kont q_3 (by first | (rw [e]; simp only [if_true, Bool.false_eq_true, if_false]; done) | (rw [e]; simp only [if_true, Bool.false_eq_true, if_false]; omega)) (Ow.Sz.mono z_q_3 (by decide : 4000 ≤ 4002)) _ (Ow.same_new h_p_3)
    · refine ⟨_, rfl, ?_⟩
      refine ⟨_, rfl, ?_⟩
      refine ⟨_, rfl, fun ab_4 h_ab_4 => ?_⟩
      have hm_ab_4 := Ow.abs_ite h_ab_4
      refine ⟨_, rfl, ?_⟩
      refine ⟨_, _, rfl, (Ow.dmz (by walk_at "o2") (Ow.Sz.abs c1 h_ab_4) (by decide)), fun q_4 r_4 p_4 h_q_4 h_r_4 h0_r_4 h1_r_4 h_p_4 => ?_⟩
      have z_q_4 : Ow.Sz 4000 q_4 := by rw [h_q_4]; exact Ow.Sz.div (Ow.Sz.abs c1 h_ab_4) (by walk_at "o2")
      refine ⟨_, _, rfl, (SqT.of upd_same), rfl, ?_⟩
      refine ⟨_, _, rfl, ?_⟩
      refine ⟨_, _, rfl, ?_⟩
      refine ⟨rfl, ?_⟩
      refine ⟨_, rfl, ?_⟩
      refine ⟨_, _, _, _, _, rfl, .inr (.inr (.inr (⟨rfl, rfl⟩))), (Ow.at_new h_p_4 c0), rfl, ?_⟩
      refine ⟨_, rfl, ?_⟩
      refine ⟨_, rfl, ?_⟩
      refine ⟨_, rfl, ?_⟩
      refine ⟨_, rfl, ?_⟩
      refine ⟨_, _, rfl, rfl, ?_⟩
      refine ⟨_, _, _, _, _, _, rfl, (Ow.at_new h_p_4 c0), ?_⟩
      refine ⟨_, rfl, ?_⟩
      refine Ow.ifb (fun h10 => ?_) (fun h10 => ?_)
      · refine ⟨_, rfl, ?_⟩
        refine ⟨_, _, rfl, rfl, ?_⟩
        refine ⟨_, rfl, fun quotient_4 h_quotient_4 => ?_⟩
        have z_quotient_4 : Ow.Sz 4001 quotient_4 := by rw [h_quotient_4]; exact (Ow.Sz.add z_q_4 (Ow.Sz.mono (Ow.Sz.lit (n := 1) (i := 1) (by decide)) (by decide : 1 ≤ 4000)))
        refine ⟨_, rfl, ?_⟩
        refine ⟨_, _, rfl, rfl, ?_⟩
        refine ⟨_, rfl, ?_⟩
        refine Ow.ifd (fun h11 => ?_) (fun h11 => ?_)
        · refine ⟨_, rfl, ?_⟩
          refine ⟨_, _, rfl, rfl, ?_⟩
          first | have e := Ow.rnd_neg (t := top) (b := bottom) (by assumption) (by assumption) (by assumption) (by assumption) (by assumption) | have e := Ow.rnd_pos (t := top) (b := bottom) (by assumption) (by assumption) (by assumption) (by assumption) (by assumption)
          exact kont (0 - quotient_4) (by first | (rw [e]; simp only [if_true, Bool.false_eq_true, if_false]; done) | (rw [e]; simp only [if_true, Bool.false_eq_true, if_false]; omega)) (Ow.Sz.sub (Ow.Sz.mono (Ow.Sz.lit (n := 1) (i := 0) (by decide)) (by decide : 1 ≤ 4001)) z_quotient_4) _ (Ow.same_new h_p_4)
        · refine ⟨_, rfl, ?_⟩
          first | have e := Ow.rnd_neg (t := top) (b := bottom) (by assumption) (by assumption) (by assumption) (by assumption) (by assumption) | have e := Ow.rnd_pos (t := top) (b := bottom) (by assumption) (by assumption) (by assumption) (by assumption) (by assumption)
          exact kont quotient_4 (by first | (rw [e]; simp only [if_true, Bool.false_eq_true, if_false]; done) | (rw [e]; simp only [if_true, Bool.false_eq_true, if_false]; omega)) (Ow.Sz.mono z_quotient_4 (by decide : 4001 ≤ 4002)) _ (Ow.same_new h_p_4)
      · refine ⟨_, rfl, ?_⟩
        refine ⟨_, _, rfl, rfl, ?_⟩
        refine ⟨_, rfl, ?_⟩
        refine Ow.ifd (fun h12 => ?_) (fun h12 => ?_)
        · refine ⟨_, rfl, ?_⟩
          refine ⟨_, _, rfl, rfl, ?_⟩
          first | have e := Ow.rnd_neg (t := top) (b := bottom) (by assumption) (by assumption) (by assumption) (by assumption) (by assumption) | have e := Ow.rnd_pos (t := top) (b := bottom) (by assumption) (by assumption) (by assumption) (by assumption) (by assumption)
          exact kont (0 - q_4) (by first | (rw [e]; simp only [if_true, Bool.false_eq_true, if_false]; done) | (rw [e]; simp only [if_true, Bool.false_eq_true, if_false]; omega)) (Ow.Sz.mono (Ow.Sz.sub (Ow.Sz.mono (Ow.Sz.lit (n := 1) (i := 0) (by decide)) (by decide : 1 ≤ 4000)) z_q_4) (by decide : 4001 ≤ 4002)) _ (Ow.same_new h_p_4)
        · refine ⟨_, rfl, ?_⟩
          first | have e := Ow.rnd_neg (t := top) (b := bottom) (by assumption) (by assumption) (by assumption) (by assumption) (by assumption) | have e := Ow.rnd_pos (t := top) (b := bottom) (by assumption) (by assumption) (by assumption) (by assumption) (by assumption)
          exact kont q_4 (by first | (rw [e]; simp only [if_true, Bool.false_eq_true, if_false]; done) | (rw [e]; simp only [if_true, Bool.false_eq_true, if_false]; omega)) (Ow.Sz.mono z_q_4 (by decide : 4000 ≤ 4002)) _ (Ow.same_new h_p_4)
theorem ok_Plain_least (T : Tx K mg) : FnOk P w K mg base CX0 1 T.d_Plain_least.f T.d_Plain_least.fd ["self"] (sp_Plain_least T) := by
  refine T.d_Plain_least.F.ok sc_Plain_least (fun vs H Q E h => ?_) (fun cdv A outer s H vs Q E hr h => ?_)
  · obtain ⟨self, width, point, dx_self, rfl, _⟩ := h
    rfl
  · obtain ⟨self, width, point, dx_self, rfl, c0, c1, c2, kont⟩ := h
    refine ⟨_, (pss_one (ps_ret pe_int)), ?_⟩
    exact kont
theorem ok_Kind_least (T : Tx K mg) : FnOk P w K mg base CX0 1 T.d_Kind_least.f T.d_Kind_least.fd ["self"] (sp_Kind_least T) := by
  refine T.d_Kind_least.F.ok sc_Kind_least (fun vs H Q E h => ?_) (fun cdv A outer s H vs Q E hr h => ?_)
  · obtain ⟨self, width, point, wy, dx_self, rfl, _⟩ := h
    rfl
  · obtain ⟨self, width, point, wy, dx_self, rfl, c0, c1, c2, kont⟩ := h
    have ph := Ow.pow2_mono (a := (width - 1).toNat) (b := 31) (by omega)
    have ph0 := Ow.p2 (width - 1).toNat
    refine ⟨_, (pss_one (ps_ret (pe_op op_sub pe_int (pe_op Ow.op_shl1 pe_int (pe_op op_sub (pe_fld (pv 0) rfl) pe_int))))), ?_⟩
    refine ⟨_, rfl, ?_⟩
    refine ⟨_, _, _, _, V.int (width), rfl, c0, (Ow.kcl_Kind T wy), (Ow.kna_Kind_width T wy), rfl, ?_⟩
    refine ⟨_, _, rfl, rfl, ?_⟩
    refine ⟨_, rfl, rfl, (by walk_at "o2"), fun B h_B h0_B => ?_⟩
    have z_B : Ow.Sz 2202 B := by rw [h_B]; exact Ow.Sz.pow (n := 2201) (by walk_at "o2")
    refine ⟨_, _, rfl, rfl, ?_⟩
    refine Ow.eqi (b := 0 - 2 ^ (width - 1).toNat) (by walk_at "o2") ?_
    exact kont
theorem ok_Plain_greatest (T : Tx K mg) : FnOk P w K mg base CX0 1 T.d_Plain_greatest.f T.d_Plain_greatest.fd ["self"] (sp_Plain_greatest T) := by
  refine T.d_Plain_greatest.F.ok sc_Plain_greatest (fun vs H Q E h => ?_) (fun cdv A outer s H vs Q E hr h => ?_)
  · obtain ⟨self, width, point, dx_self, rfl, _⟩ := h
    rfl
  · obtain ⟨self, width, point, dx_self, rfl, c0, c1, c2, kont⟩ := h
    have ph := Ow.pow2_le32 (w := width) (by omega)
    have ph0 := Ow.p2 width.toNat
    refine ⟨_, (pss_one (ps_ret (pe_op op_sub (pe_op Ow.op_shl1 pe_int (pe_fld (pv 0) rfl)) pe_int))), ?_⟩
    refine ⟨_, rfl, ?_⟩
    refine ⟨_, _, _, _, V.int (width), rfl, c0, T.k_Plain.cl, T.na_Plain_width, rfl, ?_⟩
    refine ⟨_, rfl, rfl, (by walk_at "o2"), fun B h_B h0_B => ?_⟩
    have z_B : Ow.Sz 2202 B := by rw [h_B]; exact Ow.Sz.pow (n := 2201) (by walk_at "o2")
    refine ⟨_, _, rfl, rfl, ?_⟩
    refine Ow.eqi (b := 2 ^ width.toNat - 1) (by walk_at "o2") ?_
    exact kont
theorem ok_Kind_greatest (T : Tx K mg) : FnOk P w K mg base CX0 1 T.d_Kind_greatest.f T.d_Kind_greatest.fd ["self"] (sp_Kind_greatest T) := by
  refine T.d_Kind_greatest.F.ok sc_Kind_greatest (fun vs H Q E h => ?_) (fun cdv A outer s H vs Q E hr h => ?_)
  · obtain ⟨self, width, point, wy, dx_self, rfl, _⟩ := h
    rfl
  · obtain ⟨self, width, point, wy, dx_self, rfl, c0, c1, c2, kont⟩ := h
    have ph := Ow.pow2_mono (a := (width - 1).toNat) (b := 31) (by omega)
    have ph0 := Ow.p2 (width - 1).toNat
    refine ⟨_, (pss_one (ps_ret (pe_op op_sub (pe_op Ow.op_shl1 pe_int (pe_op op_sub (pe_fld (pv 0) rfl) pe_int)) pe_int))), ?_⟩
    refine ⟨_, rfl, ?_⟩
    refine ⟨_, _, _, _, V.int (width), rfl, c0, (Ow.kcl_Kind T wy), (Ow.kna_Kind_width T wy), rfl, ?_⟩
    refine ⟨_, _, rfl, rfl, ?_⟩
    refine ⟨_, rfl, rfl, (by walk_at "o2"), fun B h_B h0_B => ?_⟩
    have z_B : Ow.Sz 2202 B := by rw [h_B]; exact Ow.Sz.pow (n := 2201) (by walk_at "o2")
    refine ⟨_, _, rfl, rfl, ?_⟩
    refine Ow.eqi (b := 2 ^ (width - 1).toNat - 1) (by walk_at "o2") ?_
    exact kont
theorem ok_Kind_is_count (T : Tx K mg) : FnOk P w K mg base CX0 2 T.d_Kind_is_count.f T.d_Kind_is_count.fd ["self", "number"] (sp_Kind_is_count T) := by
  refine T.d_Kind_is_count.F.ok sc_Kind_is_count (fun vs H Q E h => ?_) (fun cdv A outer s H vs Q E hr h => ?_)
  · obtain ⟨self, number, kd, dx_self, rfl, _⟩ := h
    rfl
  · obtain ⟨self, number, kd, dx_self, rfl, c0, c1, kont⟩ := h
    refine ⟨_, (pss_one (ps_ret (pe_chain op_le op_le (Ow.pe_methA0 (R := fun C sp => (C = T.k_Plain.C ∧ sp = sp_Plain_least T) ∨ (C = T.k_Signed.C ∧ sp = sp_Kind_least T) ∨ (C = T.k_Pointed.C ∧ sp = sp_Kind_least T)) (pv 0) (Ow.mal_or (Ow.mal_one ⟨_, _, _, _, T.k_Plain.cl, T.mt_Plain_least, Ow.ok_Plain_least T, hr.mono (by decide : 1 ≤ 1), T.d_Plain_least.b⟩) (Ow.mal_or (Ow.mal_one ⟨_, _, _, _, T.k_Signed.cl, T.mt_Signed_least, Ow.ok_Kind_least T, hr.mono (by decide : 1 ≤ 1), T.d_Kind_least.b⟩) (Ow.mal_one ⟨_, _, _, _, T.k_Pointed.cl, T.mt_Pointed_least, Ow.ok_Kind_least T, hr.mono (by decide : 1 ≤ 1), T.d_Kind_least.b⟩))) pass0) (pv 1) (Ow.pe_methA0 (R := fun C sp => (C = T.k_Plain.C ∧ sp = sp_Plain_greatest T) ∨ (C = T.k_Signed.C ∧ sp = sp_Kind_greatest T) ∨ (C = T.k_Pointed.C ∧ sp = sp_Kind_greatest T)) (pv 0) (Ow.mal_or (Ow.mal_one ⟨_, _, _, _, T.k_Plain.cl, T.mt_Plain_greatest, Ow.ok_Plain_greatest T, hr.mono (by decide : 1 ≤ 1), T.d_Plain_greatest.b⟩) (Ow.mal_or (Ow.mal_one ⟨_, _, _, _, T.k_Signed.cl, T.mt_Signed_greatest, Ow.ok_Kind_greatest T, hr.mono (by decide : 1 ≤ 1), T.d_Kind_greatest.b⟩) (Ow.mal_one ⟨_, _, _, _, T.k_Pointed.cl, T.mt_Pointed_greatest, Ow.ok_Kind_greatest T, hr.mono (by decide : 1 ≤ 1), T.d_Kind_greatest.b⟩))) pass0)))), ?_⟩
    rcases kd with ⟨kd_w⟩ | ⟨kd_w_2⟩ | ⟨kd_w_3, kd_p⟩
    · replace c0 : H self = some (.ins T.k_Plain.C dx_self [(("width" : Str), V.int (kd_w)), (("point" : Str), V.int (0))]) := c0
      have hk := Ow.krng c1
      have hl := Ow.kle c1
      have hg := Ow.kge c1
      simp only [Ow.KOk] at c1
      simp only [Ow.kw] at hk
      simp only [Ow.kle1] at hl
      simp only [Ow.kge1] at hg
      refine ⟨_, rfl, ?_⟩
      refine ⟨_, _, _, _, _, rfl, .inl ⟨rfl, rfl⟩, c0, rfl, ?_⟩
      refine ⟨_, _, _, _, rfl, c0, (by walk_at "o2"), (by walk_at "o2"), ?_⟩
      refine ⟨_, rfl, ?_⟩
      refine ⟨_, _, rfl, rfl, ?_⟩
      refine ⟨_, rfl, ?_⟩
      refine Ow.ifd (fun h1 => ?_) (fun h1 => ?_)
      · refine ⟨_, rfl, ?_⟩
        refine ⟨_, _, _, _, _, rfl, .inl ⟨rfl, rfl⟩, c0, rfl, ?_⟩
        refine ⟨_, _, _, _, rfl, c0, (by walk_at "o2"), (by walk_at "o2"), ?_⟩
        refine ⟨_, _, rfl, rfl, ?_⟩
        exact kont (decide (number ≤ (2 ^ kd_w.toNat - 1))) (by first | assumption | omega | (simp only [Bool.not_eq_true', Bool.false_eq_true, false_iff, true_iff, iff_false, iff_true, decide_eq_true_eq, decide_eq_false_iff_not, V.int.injEq]; omega) | exact Ow.nbi (by assumption) | (subst_vars; exact Ow.nbe (Ow.knr_ne (by omega) hl hg)) | omega) _ (Same.refl _)
      · exact kont false (by first | assumption | omega | (simp only [Bool.not_eq_true', Bool.false_eq_true, false_iff, true_iff, iff_false, iff_true, decide_eq_true_eq, decide_eq_false_iff_not, V.int.injEq]; omega) | exact Ow.nbi (by assumption) | (subst_vars; exact Ow.nbe (Ow.knr_ne (by omega) hl hg)) | omega) _ (Same.refl _)
    · replace c0 : H self = some (.ins T.k_Signed.C dx_self [(("width" : Str), V.int (kd_w_2)), (("point" : Str), V.int (0))]) := c0
      have hk := Ow.krng c1
      have hl := Ow.kle c1
      have hg := Ow.kge c1
      simp only [Ow.KOk] at c1
      simp only [Ow.kw] at hk
      simp only [Ow.kle1] at hl
      simp only [Ow.kge1] at hg
      refine ⟨_, rfl, ?_⟩
      refine ⟨_, _, _, _, _, rfl, .inr (.inl ⟨rfl, rfl⟩), c0, rfl, ?_⟩
      refine ⟨_, _, _, Ow.F_Kind.Signed, _, rfl, c0, (by walk_at "o2"), (by walk_at "o2"), ?_⟩
      refine ⟨_, rfl, ?_⟩
      refine ⟨_, _, rfl, rfl, ?_⟩
      refine ⟨_, rfl, ?_⟩
      refine Ow.ifd (fun h2 => ?_) (fun h2 => ?_)
      · refine ⟨_, rfl, ?_⟩
        refine ⟨_, _, _, _, _, rfl, .inr (.inl ⟨rfl, rfl⟩), c0, rfl, ?_⟩
        refine ⟨_, _, _, Ow.F_Kind.Signed, _, rfl, c0, (by walk_at "o2"), (by walk_at "o2"), ?_⟩
        refine ⟨_, _, rfl, rfl, ?_⟩
        exact kont (decide (number ≤ (2 ^ (kd_w_2 - 1).toNat - 1))) (by first | assumption | omega | (simp only [Bool.not_eq_true', Bool.false_eq_true, false_iff, true_iff, iff_false, iff_true, decide_eq_true_eq, decide_eq_false_iff_not, V.int.injEq]; omega) | exact Ow.nbi (by assumption) | (subst_vars; exact Ow.nbe (Ow.knr_ne (by omega) hl hg)) | omega) _ (Same.refl _)
      · exact kont false (by first | assumption | omega | (simp only [Bool.not_eq_true', Bool.false_eq_true, false_iff, true_iff, iff_false, iff_true, decide_eq_true_eq, decide_eq_false_iff_not, V.int.injEq]; omega) | exact Ow.nbi (by assumption) | (subst_vars; exact Ow.nbe (Ow.knr_ne (by omega) hl hg)) | omega) _ (Same.refl _)
    · replace c0 : H self = some (.ins T.k_Pointed.C dx_self [(("width" : Str), V.int (kd_w_3)), (("point" : Str), V.int (kd_p))]) := c0
      have hk := Ow.krng c1
      have hl := Ow.kle c1
      have hg := Ow.kge c1
      simp only [Ow.KOk] at c1
      simp only [Ow.kw] at hk
      simp only [Ow.kle1] at hl
      simp only [Ow.kge1] at hg
      refine ⟨_, rfl, ?_⟩
      refine ⟨_, _, _, _, _, rfl, .inr (.inr (⟨rfl, rfl⟩)), c0, rfl, ?_⟩
      refine ⟨_, _, _, Ow.F_Kind.Pointed, _, rfl, c0, (by walk_at "o2"), (by walk_at "o2"), ?_⟩
      refine ⟨_, rfl, ?_⟩
      refine ⟨_, _, rfl, rfl, ?_⟩
      refine ⟨_, rfl, ?_⟩
      refine Ow.ifd (fun h3 => ?_) (fun h3 => ?_)
      · refine ⟨_, rfl, ?_⟩
        refine ⟨_, _, _, _, _, rfl, .inr (.inr (⟨rfl, rfl⟩)), c0, rfl, ?_⟩
        refine ⟨_, _, _, Ow.F_Kind.Pointed, _, rfl, c0, (by walk_at "o2"), (by walk_at "o2"), ?_⟩
        refine ⟨_, _, rfl, rfl, ?_⟩
        exact kont (decide (number ≤ (2 ^ (kd_w_3 - 1).toNat - 1))) (by first | assumption | omega | (simp only [Bool.not_eq_true', Bool.false_eq_true, false_iff, true_iff, iff_false, iff_true, decide_eq_true_eq, decide_eq_false_iff_not, V.int.injEq]; omega) | exact Ow.nbi (by assumption) | (subst_vars; exact Ow.nbe (Ow.knr_ne (by omega) hl hg)) | omega) _ (Same.refl _)
      · exact kont false (by first | assumption | omega | (simp only [Bool.not_eq_true', Bool.false_eq_true, false_iff, true_iff, iff_false, iff_true, decide_eq_true_eq, decide_eq_false_iff_not, V.int.injEq]; omega) | exact Ow.nbi (by assumption) | (subst_vars; exact Ow.nbe (Ow.knr_ne (by omega) hl hg)) | omega) _ (Same.refl _)
theorem ok_Kind_bits_of (T : Tx K mg) : FnOk P w K mg base CX0 3 T.d_Kind_bits_of.f T.d_Kind_bits_of.fd ["self", "count"] (sp_Kind_bits_of T) := by
  refine T.d_Kind_bits_of.F.ok sc_Kind_bits_of (fun vs H Q E h => ?_) (fun cdv A outer s H vs Q E hr h => ?_)
  · obtain ⟨self, count, kd, dx_self, rfl, _⟩ := h
    rfl
  · obtain ⟨self, count, kd, dx_self, rfl, c0, c1, c2, c3, kont⟩ := h
    refine ⟨_, (pss_cons (ps_if (PW.pt (pw_or (pt_not (pt_val (pe_call (Ow.ok_is_whole T) (hr.mono (by decide : 1 ≤ 2)) (by rfl) T.d_is_whole.m T.d_is_whole.F.kp T.d_is_whole.b .nil pass0 (pa_cons (pv 1) pa_nil)))) (pw_or1 (pt_not (pt_val (Ow.pe_methA (R := fun C sp => (C = T.k_Plain.C ∧ sp = sp_Kind_is_count T) ∨ (C = T.k_Signed.C ∧ sp = sp_Kind_is_count T) ∨ (C = T.k_Pointed.C ∧ sp = sp_Kind_is_count T)) (pv 0) (Ow.mal_or (Ow.mal_one ⟨_, _, _, _, T.k_Plain.cl, T.mt_Plain_is_count, Ow.ok_Kind_is_count T, hr.mono (by decide : 2 ≤ 2), T.d_Kind_is_count.b⟩) (Ow.mal_or (Ow.mal_one ⟨_, _, _, _, T.k_Signed.cl, T.mt_Signed_is_count, Ow.ok_Kind_is_count T, hr.mono (by decide : 2 ≤ 2), T.d_Kind_is_count.b⟩) (Ow.mal_one ⟨_, _, _, _, T.k_Pointed.cl, T.mt_Pointed_is_count, Ow.ok_Kind_is_count T, hr.mono (by decide : 2 ≤ 2), T.d_Kind_is_count.b⟩))) pass0 (pa_cons (pv 1) pa_nil))))))) (pss_one ps_never) pss_nil)
        (pss_one (ps_ret (pe_op Ow.op_mask (pv 1) (pe_op op_sub (pe_op Ow.op_shl1 pe_int (pe_fld (pv 0) rfl)) pe_int))))), ?_⟩
    rcases kd with ⟨kd_w⟩ | ⟨kd_w_2⟩ | ⟨kd_w_3, kd_p⟩
    · replace c0 : H self = some (.ins T.k_Plain.C dx_self [(("width" : Str), V.int (kd_w)), (("point" : Str), V.int (0))]) := c0
      have hk := Ow.krng c1
      have hl := Ow.kle c1
      have hg := Ow.kge c1
      simp only [Ow.KOk] at c1
      simp only [Ow.kw] at hk
      simp only [Ow.kle1] at hl
      simp only [Ow.kge1] at hg
      refine ⟨_, rfl, ?_⟩
      refine ⟨_, rfl, ?_⟩
      refine ⟨_, rfl, ?_⟩
      refine iteF ?_
      refine ⟨_, rfl, ?_⟩
      refine ⟨_, _, _, _, _, rfl, .inl ⟨rfl, rfl⟩, c0, rfl, ?_⟩
      refine ⟨_, rfl, ?_⟩
      refine ⟨_, _, ((Ow.Tf_Kind.plain kd_w)), _, rfl, c0, (by walk_at "o2"), fun t h1 Hn h2 => ?_⟩
      refine ⟨_, rfl, ?_⟩
      refine Ow.ifnb (fun h3 => ?_) (fun h3 => ?_)
      · exact ((by first | omega | exact absurd ((by assumption : _ = true ↔ Ow.kl _ ≤ count ∧ count ≤ Ow.kg _).mpr ⟨by omega, by omega⟩) (by first | exact Bool.false_ne_true | (rw [h3]; exact Bool.false_ne_true) | exact h3)) : False).elim
      · refine ⟨_, rfl, ?_⟩
        refine ⟨_, rfl, ?_⟩
        refine ⟨_, _, _, _, V.int (kd_w), rfl, (h2 _ _ c0), T.k_Plain.cl, T.na_Plain_width, rfl, ?_⟩
        refine ⟨_, rfl, rfl, (by walk_at "o2"), fun B h_B h0_B => ?_⟩
        have z_B : Ow.Sz 2202 B := by rw [h_B]; exact Ow.Sz.pow (n := 2201) (by walk_at "o2")
        refine ⟨_, _, rfl, rfl, ?_⟩
        refine ⟨_, _, kd_w.toNat, rfl, rfl, (by walk_at "o2"), fun r h_r h0_r h1_r => ?_⟩
        refine Ow.eqi (b := count % 2 ^ (Ow.kw ((Ow.Tf_Kind.plain kd_w))).toNat) (by walk_at "o2") ?_
        exact kont _ h2
    · replace c0 : H self = some (.ins T.k_Signed.C dx_self [(("width" : Str), V.int (kd_w_2)), (("point" : Str), V.int (0))]) := c0
      have hk := Ow.krng c1
      have hl := Ow.kle c1
      have hg := Ow.kge c1
      simp only [Ow.KOk] at c1
      simp only [Ow.kw] at hk
      simp only [Ow.kle1] at hl
      simp only [Ow.kge1] at hg
      refine ⟨_, rfl, ?_⟩
      refine ⟨_, rfl, ?_⟩
      refine ⟨_, rfl, ?_⟩
      refine iteF ?_
      refine ⟨_, rfl, ?_⟩
      refine ⟨_, _, _, _, _, rfl, .inr (.inl ⟨rfl, rfl⟩), c0, rfl, ?_⟩
      refine ⟨_, rfl, ?_⟩
      refine ⟨_, _, ((Ow.Tf_Kind.signed kd_w_2)), _, rfl, c0, (by walk_at "o2"), fun t_2 h4 Hn_2 h5 => ?_⟩
      refine ⟨_, rfl, ?_⟩
      refine Ow.ifnb (fun h6 => ?_) (fun h6 => ?_)
      · exact ((by first | omega | exact absurd ((by assumption : _ = true ↔ Ow.kl _ ≤ count ∧ count ≤ Ow.kg _).mpr ⟨by omega, by omega⟩) (by first | exact Bool.false_ne_true | (rw [h6]; exact Bool.false_ne_true) | exact h6)) : False).elim
      · refine ⟨_, rfl, ?_⟩
        refine ⟨_, rfl, ?_⟩
        refine ⟨_, _, _, _, V.int (kd_w_2), rfl, (h5 _ _ c0), T.k_Signed.cl, T.na_Signed_width, rfl, ?_⟩
        refine ⟨_, rfl, rfl, (by walk_at "o2"), fun B_2 h_B_2 h0_B_2 => ?_⟩
        have z_B_2 : Ow.Sz 2202 B_2 := by rw [h_B_2]; exact Ow.Sz.pow (n := 2201) (by walk_at "o2")
        refine ⟨_, _, rfl, rfl, ?_⟩
        refine ⟨_, _, kd_w_2.toNat, rfl, rfl, (by walk_at "o2"), fun r_2 h_r_2 h0_r_2 h1_r_2 => ?_⟩
        refine Ow.eqi (b := count % 2 ^ (Ow.kw ((Ow.Tf_Kind.signed kd_w_2))).toNat) (by walk_at "o2") ?_
        exact kont _ h5
    · replace c0 : H self = some (.ins T.k_Pointed.C dx_self [(("width" : Str), V.int (kd_w_3)), (("point" : Str), V.int (kd_p))]) := c0
      have hk := Ow.krng c1
      have hl := Ow.kle c1
      have hg := Ow.kge c1
      simp only [Ow.KOk] at c1
      simp only [Ow.kw] at hk
      simp only [Ow.kle1] at hl
      simp only [Ow.kge1] at hg
      refine ⟨_, rfl, ?_⟩
      refine ⟨_, rfl, ?_⟩
      refine ⟨_, rfl, ?_⟩
      refine iteF ?_
      refine ⟨_, rfl, ?_⟩
      refine ⟨_, _, _, _, _, rfl, .inr (.inr (⟨rfl, rfl⟩)), c0, rfl, ?_⟩
      refine ⟨_, rfl, ?_⟩
      refine ⟨_, _, ((Ow.Tf_Kind.point kd_w_3 kd_p)), _, rfl, c0, (by walk_at "o2"), fun t_3 h7 Hn_3 h8 => ?_⟩
      refine ⟨_, rfl, ?_⟩
      refine Ow.ifnb (fun h9 => ?_) (fun h9 => ?_)
      · exact ((by first | omega | exact absurd ((by assumption : _ = true ↔ Ow.kl _ ≤ count ∧ count ≤ Ow.kg _).mpr ⟨by omega, by omega⟩) (by first | exact Bool.false_ne_true | (rw [h9]; exact Bool.false_ne_true) | exact h9)) : False).elim
      · refine ⟨_, rfl, ?_⟩
        refine ⟨_, rfl, ?_⟩
        refine ⟨_, _, _, _, V.int (kd_w_3), rfl, (h8 _ _ c0), T.k_Pointed.cl, T.na_Pointed_width, rfl, ?_⟩
        refine ⟨_, rfl, rfl, (by walk_at "o2"), fun B_3 h_B_3 h0_B_3 => ?_⟩
        have z_B_3 : Ow.Sz 2202 B_3 := by rw [h_B_3]; exact Ow.Sz.pow (n := 2201) (by walk_at "o2")
        refine ⟨_, _, rfl, rfl, ?_⟩
        refine ⟨_, _, kd_w_3.toNat, rfl, rfl, (by walk_at "o2"), fun r_3 h_r_3 h0_r_3 h1_r_3 => ?_⟩
        refine Ow.eqi (b := count % 2 ^ (Ow.kw ((Ow.Tf_Kind.point kd_w_3 kd_p))).toNat) (by walk_at "o2") ?_
        exact kont _ h8
theorem ok_Kind_stop_at (T : Tx K mg) : FnOk P w K mg base CX0 4 T.d_Kind_stop_at.f T.d_Kind_stop_at.fd ["self", "number"] (sp_Kind_stop_at T) := by
  refine T.d_Kind_stop_at.F.ok sc_Kind_stop_at (fun vs H Q E h => ?_) (fun cdv A outer s H vs Q E hr h => ?_)
  · obtain ⟨self, number, kd, dx_self, rfl, _⟩ := h
    rfl
  · obtain ⟨self, number, kd, dx_self, rfl, c0, c1, kont⟩ := h
    refine ⟨_, (pss_cons (ps_set (i := 2) sc_Kind_stop_at.nd rfl (Or.inl rfl) (Ow.pe_nmi (pe_callB (call_max2 rfl) (by rfl) T.z_max (by decide +kernel) (pa_cons (Ow.pe_methA0 (R := fun C sp => (C = T.k_Plain.C ∧ sp = sp_Plain_least T) ∨ (C = T.k_Signed.C ∧ sp = sp_Kind_least T) ∨ (C = T.k_Pointed.C ∧ sp = sp_Kind_least T)) (pv 0) (Ow.mal_or (Ow.mal_one ⟨_, _, _, _, T.k_Plain.cl, T.mt_Plain_least, Ow.ok_Plain_least T, hr.mono (by decide : 1 ≤ 3), T.d_Plain_least.b⟩) (Ow.mal_or (Ow.mal_one ⟨_, _, _, _, T.k_Signed.cl, T.mt_Signed_least, Ow.ok_Kind_least T, hr.mono (by decide : 1 ≤ 3), T.d_Kind_least.b⟩) (Ow.mal_one ⟨_, _, _, _, T.k_Pointed.cl, T.mt_Pointed_least, Ow.ok_Kind_least T, hr.mono (by decide : 1 ≤ 3), T.d_Kind_least.b⟩))) pass0) (pa_cons (Ow.pe_nmi (pe_callB (call_min2 rfl) (by rfl) T.z_min (by decide +kernel) (pa_cons (pv 1) (pa_cons (Ow.pe_methA0 (R := fun C sp => (C = T.k_Plain.C ∧ sp = sp_Plain_greatest T) ∨ (C = T.k_Signed.C ∧ sp = sp_Kind_greatest T) ∨ (C = T.k_Pointed.C ∧ sp = sp_Kind_greatest T)) (pv 0) (Ow.mal_or (Ow.mal_one ⟨_, _, _, _, T.k_Plain.cl, T.mt_Plain_greatest, Ow.ok_Plain_greatest T, hr.mono (by decide : 1 ≤ 3), T.d_Plain_greatest.b⟩) (Ow.mal_or (Ow.mal_one ⟨_, _, _, _, T.k_Signed.cl, T.mt_Signed_greatest, Ow.ok_Kind_greatest T, hr.mono (by decide : 1 ≤ 3), T.d_Kind_greatest.b⟩) (Ow.mal_one ⟨_, _, _, _, T.k_Pointed.cl, T.mt_Pointed_greatest, Ow.ok_Kind_greatest T, hr.mono (by decide : 1 ≤ 3), T.d_Kind_greatest.b⟩))) pass0) pa_nil)))) pa_nil)))))
        (pss_one (ps_ret (pe_tup (pa_cons (Ow.pe_methA (R := fun C sp => (C = T.k_Plain.C ∧ sp = sp_Kind_bits_of T) ∨ (C = T.k_Signed.C ∧ sp = sp_Kind_bits_of T) ∨ (C = T.k_Pointed.C ∧ sp = sp_Kind_bits_of T)) (pv 0) (Ow.mal_or (Ow.mal_one ⟨_, _, _, _, T.k_Plain.cl, T.mt_Plain_bits_of, Ow.ok_Kind_bits_of T, hr.mono (by decide : 3 ≤ 3), T.d_Kind_bits_of.b⟩) (Ow.mal_or (Ow.mal_one ⟨_, _, _, _, T.k_Signed.cl, T.mt_Signed_bits_of, Ow.ok_Kind_bits_of T, hr.mono (by decide : 3 ≤ 3), T.d_Kind_bits_of.b⟩) (Ow.mal_one ⟨_, _, _, _, T.k_Pointed.cl, T.mt_Pointed_bits_of, Ow.ok_Kind_bits_of T, hr.mono (by decide : 3 ≤ 3), T.d_Kind_bits_of.b⟩))) pass0 (pa_cons (pv 2) pa_nil)) (pa_cons (pe_cmpR op_ne (pv 2) (pv 1) (nomark _)) pa_nil)))))), ?_⟩
    rcases kd with ⟨kd_w⟩ | ⟨kd_w_2⟩ | ⟨kd_w_3, kd_p⟩
    · replace c0 : H self = some (.ins T.k_Plain.C dx_self [(("width" : Str), V.int (kd_w)), (("point" : Str), V.int (0))]) := c0
      have hk := Ow.krng c1
      have hl := Ow.kle c1
      have hg := Ow.kge c1
      simp only [Ow.KOk] at c1
      simp only [Ow.kw] at hk
      simp only [Ow.kle1] at hl
      simp only [Ow.kge1] at hg
      refine ⟨_, rfl, ?_⟩
      refine ⟨_, _, _, _, _, rfl, .inl ⟨rfl, rfl⟩, c0, rfl, ?_⟩
      refine ⟨_, _, _, _, rfl, c0, (by walk_at "o2"), (by walk_at "o2"), ?_⟩
      refine ⟨_, rfl, ?_⟩
      refine ⟨_, rfl, ?_⟩
      refine ⟨_, _, _, _, _, rfl, .inl ⟨rfl, rfl⟩, c0, rfl, ?_⟩
      refine ⟨_, _, _, _, rfl, c0, (by walk_at "o2"), (by walk_at "o2"), ?_⟩
      refine ⟨_, _, rfl, ?_⟩
      refine ⟨_, rfl, fun m h_m => ?_⟩
      have hm_m := Ow.min_ite h_m
      refine ⟨_, _, rfl, ?_⟩
      refine ⟨_, rfl, fun m_2 h_m_2 => ?_⟩
      have hm_m_2 := Ow.max_ite h_m_2
      have hkr := Ow.knr_of (m := m_2) (n := number) (by assumption) (by assumption) hl hg
      replace hkr := hkr.resolve_right (by omega)
      refine ⟨_, rfl, ?_⟩
      refine ⟨_, _, _, _, _, rfl, .inl ⟨rfl, rfl⟩, c0, rfl, ?_⟩
      refine ⟨_, rfl, ?_⟩
      refine ⟨_, _, ((Ow.Tf_Kind.plain kd_w)), _, rfl, c0, (by walk_at "o2"), (by walk_at "o2"), (by walk_at "o2"), fun Hn h1 => ?_⟩
      refine ⟨_, rfl, ?_⟩
      refine ⟨_, rfl, ?_⟩
      refine ⟨rfl, ?_⟩
      refine ⟨by show 2 ≤ sizeLine; decide, fun p h_p => ?_⟩
      have h2 : m_2 % 2 ^ (Ow.kw ((Ow.Tf_Kind.plain kd_w))).toNat = Ow.knr ((Ow.Tf_Kind.plain kd_w)) number % 2 ^ (Ow.kw ((Ow.Tf_Kind.plain kd_w))).toNat := (by first | rfl | rw [hkr])
      rw [h2]
      exact kont (!decide ((V.int (m_2)) = V.int (number))) (by first | assumption | omega | (simp only [Bool.not_eq_true', Bool.false_eq_true, false_iff, true_iff, iff_false, iff_true, decide_eq_true_eq, decide_eq_false_iff_not, V.int.injEq]; omega) | exact Ow.nbi (by assumption) | (subst_vars; exact Ow.nbe (Ow.knr_ne (by omega) hl hg)) | omega) _ _ (h1.trans (Ow.same_new h_p)) (Same.free h1 h_p) upd_same
    · replace c0 : H self = some (.ins T.k_Signed.C dx_self [(("width" : Str), V.int (kd_w_2)), (("point" : Str), V.int (0))]) := c0
      have hk := Ow.krng c1
      have hl := Ow.kle c1
      have hg := Ow.kge c1
      simp only [Ow.KOk] at c1
      simp only [Ow.kw] at hk
      simp only [Ow.kle1] at hl
      simp only [Ow.kge1] at hg
      refine ⟨_, rfl, ?_⟩
      refine ⟨_, _, _, _, _, rfl, .inr (.inl ⟨rfl, rfl⟩), c0, rfl, ?_⟩
      refine ⟨_, _, _, Ow.F_Kind.Signed, _, rfl, c0, (by walk_at "o2"), (by walk_at "o2"), ?_⟩
      refine ⟨_, rfl, ?_⟩
      refine ⟨_, rfl, ?_⟩
      refine ⟨_, _, _, _, _, rfl, .inr (.inl ⟨rfl, rfl⟩), c0, rfl, ?_⟩
      refine ⟨_, _, _, Ow.F_Kind.Signed, _, rfl, c0, (by walk_at "o2"), (by walk_at "o2"), ?_⟩
      refine ⟨_, _, rfl, ?_⟩
      refine ⟨_, rfl, fun m_3 h_m_3 => ?_⟩
      have hm_m_3 := Ow.min_ite h_m_3
      refine ⟨_, _, rfl, ?_⟩
      refine ⟨_, rfl, fun m_4 h_m_4 => ?_⟩
      have hm_m_4 := Ow.max_ite h_m_4
      have hkr := Ow.knr_of (m := m_4) (n := number) (by assumption) (by assumption) hl hg
      replace hkr := hkr.resolve_right (by omega)
      refine ⟨_, rfl, ?_⟩
      refine ⟨_, _, _, _, _, rfl, .inr (.inl ⟨rfl, rfl⟩), c0, rfl, ?_⟩
      refine ⟨_, rfl, ?_⟩
      refine ⟨_, _, ((Ow.Tf_Kind.signed kd_w_2)), _, rfl, c0, (by walk_at "o2"), (by walk_at "o2"), (by walk_at "o2"), fun Hn_2 h3 => ?_⟩
      refine ⟨_, rfl, ?_⟩
      refine ⟨_, rfl, ?_⟩
      refine ⟨rfl, ?_⟩
      refine ⟨by show 2 ≤ sizeLine; decide, fun p_2 h_p_2 => ?_⟩
      have h4 : m_4 % 2 ^ (Ow.kw ((Ow.Tf_Kind.signed kd_w_2))).toNat = Ow.knr ((Ow.Tf_Kind.signed kd_w_2)) number % 2 ^ (Ow.kw ((Ow.Tf_Kind.signed kd_w_2))).toNat := (by first | rfl | rw [hkr])
      rw [h4]
      exact kont (!decide ((V.int (m_4)) = V.int (number))) (by first | assumption | omega | (simp only [Bool.not_eq_true', Bool.false_eq_true, false_iff, true_iff, iff_false, iff_true, decide_eq_true_eq, decide_eq_false_iff_not, V.int.injEq]; omega) | exact Ow.nbi (by assumption) | (subst_vars; exact Ow.nbe (Ow.knr_ne (by omega) hl hg)) | omega) _ _ (h3.trans (Ow.same_new h_p_2)) (Same.free h3 h_p_2) upd_same
    · replace c0 : H self = some (.ins T.k_Pointed.C dx_self [(("width" : Str), V.int (kd_w_3)), (("point" : Str), V.int (kd_p))]) := c0
      have hk := Ow.krng c1
      have hl := Ow.kle c1
      have hg := Ow.kge c1
      simp only [Ow.KOk] at c1
      simp only [Ow.kw] at hk
      simp only [Ow.kle1] at hl
      simp only [Ow.kge1] at hg
      refine ⟨_, rfl, ?_⟩
      refine ⟨_, _, _, _, _, rfl, .inr (.inr (⟨rfl, rfl⟩)), c0, rfl, ?_⟩
      refine ⟨_, _, _, Ow.F_Kind.Pointed, _, rfl, c0, (by walk_at "o2"), (by walk_at "o2"), ?_⟩
      refine ⟨_, rfl, ?_⟩
      refine ⟨_, rfl, ?_⟩
      refine ⟨_, _, _, _, _, rfl, .inr (.inr (⟨rfl, rfl⟩)), c0, rfl, ?_⟩
      refine ⟨_, _, _, Ow.F_Kind.Pointed, _, rfl, c0, (by walk_at "o2"), (by walk_at "o2"), ?_⟩
      refine ⟨_, _, rfl, ?_⟩
      refine ⟨_, rfl, fun m_5 h_m_5 => ?_⟩
      have hm_m_5 := Ow.min_ite h_m_5
      refine ⟨_, _, rfl, ?_⟩
      refine ⟨_, rfl, fun m_6 h_m_6 => ?_⟩
      have hm_m_6 := Ow.max_ite h_m_6
      have hkr := Ow.knr_of (m := m_6) (n := number) (by assumption) (by assumption) hl hg
      replace hkr := hkr.resolve_right (by omega)
      refine ⟨_, rfl, ?_⟩
      refine ⟨_, _, _, _, _, rfl, .inr (.inr (⟨rfl, rfl⟩)), c0, rfl, ?_⟩
      refine ⟨_, rfl, ?_⟩
      refine ⟨_, _, ((Ow.Tf_Kind.point kd_w_3 kd_p)), _, rfl, c0, (by walk_at "o2"), (by walk_at "o2"), (by walk_at "o2"), fun Hn_3 h5 => ?_⟩
      refine ⟨_, rfl, ?_⟩
      refine ⟨_, rfl, ?_⟩
      refine ⟨rfl, ?_⟩
      refine ⟨by show 2 ≤ sizeLine; decide, fun p_3 h_p_3 => ?_⟩
      have h6 : m_6 % 2 ^ (Ow.kw ((Ow.Tf_Kind.point kd_w_3 kd_p))).toNat = Ow.knr ((Ow.Tf_Kind.point kd_w_3 kd_p)) number % 2 ^ (Ow.kw ((Ow.Tf_Kind.point kd_w_3 kd_p))).toNat := (by first | rfl | rw [hkr])
      rw [h6]
      exact kont (!decide ((V.int (m_6)) = V.int (number))) (by first | assumption | omega | (simp only [Bool.not_eq_true', Bool.false_eq_true, false_iff, true_iff, iff_false, iff_true, decide_eq_true_eq, decide_eq_false_iff_not, V.int.injEq]; omega) | exact Ow.nbi (by assumption) | (subst_vars; exact Ow.nbe (Ow.knr_ne (by omega) hl hg)) | omega) _ _ (h5.trans (Ow.same_new h_p_3)) (Same.free h5 h_p_3) upd_same
theorem ok_Kind_go_round (T : Tx K mg) : FnOk P w K mg base CX0 3 T.d_Kind_go_round.f T.d_Kind_go_round.fd ["self", "number"] (sp_Kind_go_round T) := by
  refine T.d_Kind_go_round.F.ok sc_Kind_go_round (fun vs H Q E h => ?_) (fun cdv A outer s H vs Q E hr h => ?_)
  · obtain ⟨self, number, kd, dx_self, rfl, _⟩ := h
    rfl
  · obtain ⟨self, number, kd, dx_self, rfl, c0, c1, kont⟩ := h
    refine ⟨_, (pss_one (ps_ret (pe_tup (pa_cons (pe_op Ow.op_mask (pv 1) (pe_op op_sub (pe_op Ow.op_shl1 pe_int (pe_fld (pv 0) rfl)) pe_int)) (pa_cons (pe_not (Ow.pe_methA (R := fun C sp => (C = T.k_Plain.C ∧ sp = sp_Kind_is_count T) ∨ (C = T.k_Signed.C ∧ sp = sp_Kind_is_count T) ∨ (C = T.k_Pointed.C ∧ sp = sp_Kind_is_count T)) (pv 0) (Ow.mal_or (Ow.mal_one ⟨_, _, _, _, T.k_Plain.cl, T.mt_Plain_is_count, Ow.ok_Kind_is_count T, hr.mono (by decide : 2 ≤ 2), T.d_Kind_is_count.b⟩) (Ow.mal_or (Ow.mal_one ⟨_, _, _, _, T.k_Signed.cl, T.mt_Signed_is_count, Ow.ok_Kind_is_count T, hr.mono (by decide : 2 ≤ 2), T.d_Kind_is_count.b⟩) (Ow.mal_one ⟨_, _, _, _, T.k_Pointed.cl, T.mt_Pointed_is_count, Ow.ok_Kind_is_count T, hr.mono (by decide : 2 ≤ 2), T.d_Kind_is_count.b⟩))) pass0 (pa_cons (pv 1) pa_nil))) pa_nil))))), ?_⟩
    rcases kd with ⟨kd_w⟩ | ⟨kd_w_2⟩ | ⟨kd_w_3, kd_p⟩
    · replace c0 : H self = some (.ins T.k_Plain.C dx_self [(("width" : Str), V.int (kd_w)), (("point" : Str), V.int (0))]) := c0
      have hk := Ow.krng c1
      have hl := Ow.kle c1
      have hg := Ow.kge c1
      simp only [Ow.KOk] at c1
      simp only [Ow.kw] at hk
      simp only [Ow.kle1] at hl
      simp only [Ow.kge1] at hg
      refine ⟨_, rfl, ?_⟩
      refine ⟨_, rfl, ?_⟩
      refine ⟨_, _, _, _, V.int (kd_w), rfl, c0, T.k_Plain.cl, T.na_Plain_width, rfl, ?_⟩
      refine ⟨_, rfl, rfl, (by walk_at "o2"), fun B h_B h0_B => ?_⟩
      have z_B : Ow.Sz 2202 B := by rw [h_B]; exact Ow.Sz.pow (n := 2201) (by walk_at "o2")
      refine ⟨_, _, rfl, rfl, ?_⟩
      refine ⟨_, _, kd_w.toNat, rfl, rfl, (by walk_at "o2"), fun r h_r h0_r h1_r => ?_⟩
      refine ⟨_, rfl, ?_⟩
      refine ⟨_, _, _, _, _, rfl, .inl ⟨rfl, rfl⟩, c0, rfl, ?_⟩
      refine ⟨_, rfl, ?_⟩
      refine ⟨_, _, ((Ow.Tf_Kind.plain kd_w)), _, rfl, c0, (by walk_at "o2"), fun t h1 Hn h2 => ?_⟩
      refine ⟨_, rfl, ?_⟩
      refine ⟨by show 2 ≤ sizeLine; decide, fun p h_p => ?_⟩
      have h3 : r = number % 2 ^ (Ow.kw ((Ow.Tf_Kind.plain kd_w))).toNat := (by first | rfl | omega | (subst_vars; rfl))
      subst h3
      exact kont (!t) (by first | assumption | omega | (simp only [Bool.not_eq_true', Bool.false_eq_true, false_iff, true_iff, iff_false, iff_true, decide_eq_true_eq, decide_eq_false_iff_not, V.int.injEq]; omega) | exact Ow.nbi (by assumption) | (subst_vars; exact Ow.nbe (Ow.knr_ne (by omega) hl hg)) | omega) _ _ (h2.trans (Ow.same_new h_p)) (Same.free h2 h_p) upd_same
    · replace c0 : H self = some (.ins T.k_Signed.C dx_self [(("width" : Str), V.int (kd_w_2)), (("point" : Str), V.int (0))]) := c0
      have hk := Ow.krng c1
      have hl := Ow.kle c1
      have hg := Ow.kge c1
      simp only [Ow.KOk] at c1
      simp only [Ow.kw] at hk
      simp only [Ow.kle1] at hl
      simp only [Ow.kge1] at hg
      refine ⟨_, rfl, ?_⟩
      refine ⟨_, rfl, ?_⟩
      refine ⟨_, _, _, _, V.int (kd_w_2), rfl, c0, T.k_Signed.cl, T.na_Signed_width, rfl, ?_⟩
      refine ⟨_, rfl, rfl, (by walk_at "o2"), fun B_2 h_B_2 h0_B_2 => ?_⟩
      have z_B_2 : Ow.Sz 2202 B_2 := by rw [h_B_2]; exact Ow.Sz.pow (n := 2201) (by walk_at "o2")
      refine ⟨_, _, rfl, rfl, ?_⟩
      refine ⟨_, _, kd_w_2.toNat, rfl, rfl, (by walk_at "o2"), fun r_2 h_r_2 h0_r_2 h1_r_2 => ?_⟩
      refine ⟨_, rfl, ?_⟩
      refine ⟨_, _, _, _, _, rfl, .inr (.inl ⟨rfl, rfl⟩), c0, rfl, ?_⟩
      refine ⟨_, rfl, ?_⟩
      refine ⟨_, _, ((Ow.Tf_Kind.signed kd_w_2)), _, rfl, c0, (by walk_at "o2"), fun t_2 h4 Hn_2 h5 => ?_⟩
      refine ⟨_, rfl, ?_⟩
      refine ⟨by show 2 ≤ sizeLine; decide, fun p_2 h_p_2 => ?_⟩
      have h6 : r_2 = number % 2 ^ (Ow.kw ((Ow.Tf_Kind.signed kd_w_2))).toNat := (by first | rfl | omega | (subst_vars; rfl))
      subst h6
      exact kont (!t_2) (by first | assumption | omega | (simp only [Bool.not_eq_true', Bool.false_eq_true, false_iff, true_iff, iff_false, iff_true, decide_eq_true_eq, decide_eq_false_iff_not, V.int.injEq]; omega) | exact Ow.nbi (by assumption) | (subst_vars; exact Ow.nbe (Ow.knr_ne (by omega) hl hg)) | omega) _ _ (h5.trans (Ow.same_new h_p_2)) (Same.free h5 h_p_2) upd_same
    · replace c0 : H self = some (.ins T.k_Pointed.C dx_self [(("width" : Str), V.int (kd_w_3)), (("point" : Str), V.int (kd_p))]) := c0
      have hk := Ow.krng c1
      have hl := Ow.kle c1
      have hg := Ow.kge c1
      simp only [Ow.KOk] at c1
      simp only [Ow.kw] at hk
      simp only [Ow.kle1] at hl
      simp only [Ow.kge1] at hg
      refine ⟨_, rfl, ?_⟩
      refine ⟨_, rfl, ?_⟩
      refine ⟨_, _, _, _, V.int (kd_w_3), rfl, c0, T.k_Pointed.cl, T.na_Pointed_width, rfl, ?_⟩
      refine ⟨_, rfl, rfl, (by walk_at "o2"), fun B_3 h_B_3 h0_B_3 => ?_⟩
      have z_B_3 : Ow.Sz 2202 B_3 := by rw [h_B_3]; exact Ow.Sz.pow (n := 2201) (by walk_at "o2")
      refine ⟨_, _, rfl, rfl, ?_⟩
      refine ⟨_, _, kd_w_3.toNat, rfl, rfl, (by walk_at "o2"), fun r_3 h_r_3 h0_r_3 h1_r_3 => ?_⟩
      refine ⟨_, rfl, ?_⟩
      refine ⟨_, _, _, _, _, rfl, .inr (.inr (⟨rfl, rfl⟩)), c0, rfl, ?_⟩
      refine ⟨_, rfl, ?_⟩
      refine ⟨_, _, ((Ow.Tf_Kind.point kd_w_3 kd_p)), _, rfl, c0, (by walk_at "o2"), fun t_3 h7 Hn_3 h8 => ?_⟩
      refine ⟨_, rfl, ?_⟩
      refine ⟨by show 2 ≤ sizeLine; decide, fun p_3 h_p_3 => ?_⟩
      have h9 : r_3 = number % 2 ^ (Ow.kw ((Ow.Tf_Kind.point kd_w_3 kd_p))).toNat := (by first | rfl | omega | (subst_vars; rfl))
      subst h9
      exact kont (!t_3) (by first | assumption | omega | (simp only [Bool.not_eq_true', Bool.false_eq_true, false_iff, true_iff, iff_false, iff_true, decide_eq_true_eq, decide_eq_false_iff_not, V.int.injEq]; omega) | exact Ow.nbi (by assumption) | (subst_vars; exact Ow.nbe (Ow.knr_ne (by omega) hl hg)) | omega) _ _ (h8.trans (Ow.same_new h_p_3)) (Same.free h8 h_p_3) upd_same
theorem ok_into (T : Tx K mg) : FnOk P w K mg base CX0 5 T.d_into.f T.d_into.fd ["kind", "way", "top", "bottom", "stops"] (sp_into T) := by
  refine T.d_into.F.ok sc_into (fun vs H Q E h => ?_) (fun cdv A outer s H vs Q E hr h => ?_)
  · obtain ⟨kind, way, top, bottom, stops, kd, wy, dx_kind, dx_way, rfl, _⟩ := h
    rfl
  · obtain ⟨kind, way, top, bottom, stops, kd, wy, dx_kind, dx_way, rfl, c0, c1, c2, c3, c4, c5, kont⟩ := h
    refine ⟨_, (pss_cons (ps_set (i := 5) sc_into.nd rfl (Or.inl rfl) (Ow.pe_methA (R := fun C sp => (C = T.k_Down.C ∧ sp = sp_Way_rounded T) ∨ (C = T.k_Up.C ∧ sp = sp_Way_rounded T) ∨ (C = T.k_Cut.C ∧ sp = sp_Way_rounded T) ∨ (C = T.k_Near.C ∧ sp = sp_Way_rounded T)) (pv 1) (Ow.mal_or (Ow.mal_one ⟨_, _, _, _, T.k_Down.cl, T.mt_Down_rounded, Ow.ok_Way_rounded T, hr.mono (by decide : 2 ≤ 4), T.d_Way_rounded.b⟩) (Ow.mal_or (Ow.mal_one ⟨_, _, _, _, T.k_Up.cl, T.mt_Up_rounded, Ow.ok_Way_rounded T, hr.mono (by decide : 2 ≤ 4), T.d_Way_rounded.b⟩) (Ow.mal_or (Ow.mal_one ⟨_, _, _, _, T.k_Cut.cl, T.mt_Cut_rounded, Ow.ok_Way_rounded T, hr.mono (by decide : 2 ≤ 4), T.d_Way_rounded.b⟩) (Ow.mal_one ⟨_, _, _, _, T.k_Near.cl, T.mt_Near_rounded, Ow.ok_Way_rounded T, hr.mono (by decide : 2 ≤ 4), T.d_Way_rounded.b⟩)))) pass0 (pa_cons (pe_op Ow.op_shlN (pv 2) (pe_fld (pv 0) rfl)) (pa_cons (pv 3) pa_nil))))
        (pss_cons (ps_if (pt_val (pv 4)) (pss_cons (ps_asg (Ow.pe_methA (R := fun C sp => (C = T.k_Plain.C ∧ sp = sp_Kind_stop_at T) ∨ (C = T.k_Signed.C ∧ sp = sp_Kind_stop_at T) ∨ (C = T.k_Pointed.C ∧ sp = sp_Kind_stop_at T)) (pv 0) (Ow.mal_or (Ow.mal_one ⟨_, _, _, _, T.k_Plain.cl, T.mt_Plain_stop_at, Ow.ok_Kind_stop_at T, hr.mono (by decide : 4 ≤ 4), T.d_Kind_stop_at.b⟩) (Ow.mal_or (Ow.mal_one ⟨_, _, _, _, T.k_Signed.cl, T.mt_Signed_stop_at, Ow.ok_Kind_stop_at T, hr.mono (by decide : 4 ≤ 4), T.d_Kind_stop_at.b⟩) (Ow.mal_one ⟨_, _, _, _, T.k_Pointed.cl, T.mt_Pointed_stop_at, Ow.ok_Kind_stop_at T, hr.mono (by decide : 4 ≤ 4), T.d_Kind_stop_at.b⟩))) pass0 (pa_cons (pv 5) pa_nil)) (pg_tup rfl (pgs_cons (pg_name (i := 6) sc_into.nd rfl (Or.inl rfl)) (pgs_cons (pg_name (i := 7) sc_into.nd rfl (Or.inl rfl)) pgs_nil))))
        (pss_one (ps_set (i := 8) sc_into.nd rfl (Or.inl rfl) pe_str))) (pss_cons (ps_asg (Ow.pe_methA (R := fun C sp => (C = T.k_Plain.C ∧ sp = sp_Kind_go_round T) ∨ (C = T.k_Signed.C ∧ sp = sp_Kind_go_round T) ∨ (C = T.k_Pointed.C ∧ sp = sp_Kind_go_round T)) (pv 0) (Ow.mal_or (Ow.mal_one ⟨_, _, _, _, T.k_Plain.cl, T.mt_Plain_go_round, Ow.ok_Kind_go_round T, hr.mono (by decide : 3 ≤ 4), T.d_Kind_go_round.b⟩) (Ow.mal_or (Ow.mal_one ⟨_, _, _, _, T.k_Signed.cl, T.mt_Signed_go_round, Ow.ok_Kind_go_round T, hr.mono (by decide : 3 ≤ 4), T.d_Kind_go_round.b⟩) (Ow.mal_one ⟨_, _, _, _, T.k_Pointed.cl, T.mt_Pointed_go_round, Ow.ok_Kind_go_round T, hr.mono (by decide : 3 ≤ 4), T.d_Kind_go_round.b⟩))) pass0 (pa_cons (pv 5) pa_nil)) (pg_tup rfl (pgs_cons (pg_name (i := 6) sc_into.nd rfl (Or.inl rfl)) (pgs_cons (pg_name (i := 7) sc_into.nd rfl (Or.inl rfl)) pgs_nil))))
        (pss_one (ps_set (i := 8) sc_into.nd rfl (Or.inl rfl) pe_str))))
        (pss_cons (ps_if (pt_val (pv 7)) (pss_one (ps_ret (pe_tup (pa_cons (pv 6) (pa_cons (pv 8) pa_nil))))) pss_nil)
        (pss_one (ps_ret (pe_tup (pa_cons (pv 6) (pa_cons pe_str pa_nil)))))))), ?_⟩
    rcases kd with ⟨kd_w⟩ | ⟨kd_w_2⟩ | ⟨kd_w_3, kd_p⟩
    · replace c0 : H kind = some (.ins T.k_Plain.C dx_kind [(("width" : Str), V.int (kd_w)), (("point" : Str), V.int (0))]) := c0
      have hk := Ow.krng c1
      have hl := Ow.kle c1
      have hg := Ow.kge c1
      simp only [Ow.KOk] at c1
      simp only [Ow.kw] at hk
      simp only [Ow.kle1] at hl
      simp only [Ow.kge1] at hg
      refine ⟨_, rfl, ?_⟩
      refine ⟨_, _, _, Ow.cls_Way T wy, sp_Way_rounded T, rfl, (by cases wy <;> first | exact .inl ⟨rfl, rfl⟩ | exact .inr (.inl ⟨rfl, rfl⟩) | exact .inr (.inr (.inl ⟨rfl, rfl⟩)) | exact .inr (.inr (.inr (⟨rfl, rfl⟩)))), c2, rfl, ?_⟩
      refine ⟨_, rfl, ?_⟩
      refine ⟨_, rfl, ?_⟩
      refine ⟨_, _, _, _, V.int (0), rfl, c0, T.k_Plain.cl, T.na_Plain_point, rfl, ?_⟩
      refine ⟨_, _, rfl, rfl, (by first | exact .inr (Ow.shlz (n := 1) (by assumption) (by decide) (by decide) (by decide)) | first | (walk_at "o2")), fun s (h_s : s = top * 1) => ?_⟩
      obtain rfl : top = s := by omega
      refine ⟨_, rfl, ?_⟩
      refine ⟨_, _, _, wy, _, rfl, c2, (Ow.Sz.mono c3 (by decide : 2600 ≤ 4000)), (by walk_at "o2"), c5, fun number h1 h2 Hn h3 => ?_⟩
      have hN : number = Ow.rnd wy (top * 2 ^ (Ow.kp ((Ow.Tf_Kind.plain kd_w))).toNat) bottom := by first | exact Ow.into_0 (by assumption) | exact Ow.into_n (by assumption) (by assumption)
      refine ⟨_, rfl, ?_⟩
      refine ⟨_, rfl, ?_⟩
      refine Ow.ifb (fun h4 => ?_) (fun h4 => ?_)
      · refine ⟨_, rfl, ?_⟩
        refine ⟨_, _, _, _, _, rfl, .inl ⟨rfl, rfl⟩, (h3 _ _ c0), rfl, ?_⟩
        refine ⟨_, rfl, ?_⟩
        refine ⟨_, _, ((Ow.Tf_Kind.plain kd_w)), _, rfl, (h3 _ _ c0), (by walk_at "o2"), fun b h5 p Hn_2 h6 h7 h8 => ?_⟩
        refine ⟨_, _, rfl, (SqT.of h8), rfl, ?_⟩
        refine ⟨_, _, rfl, ?_⟩
        refine ⟨_, _, rfl, ?_⟩
        refine ⟨rfl, ?_⟩
        refine ⟨_, rfl, ?_⟩
        refine ⟨_, rfl, ?_⟩
        refine Ow.ifb (fun h9 => ?_) (fun h9 => ?_)
        · refine ⟨_, rfl, ?_⟩
          refine ⟨_, rfl, ?_⟩
          refine ⟨by show 2 ≤ sizeLine; decide, fun p_2 h_p_2 => ?_⟩
          exact kont (Ow.knr ((Ow.Tf_Kind.plain kd_w)) number % 2 ^ (Ow.kw ((Ow.Tf_Kind.plain kd_w))).toNat) ("stop") (by first | exact Ow.into_b1 hN (by assumption) | exact Ow.into_b0 hN (by assumption) | exact Ow.into_m1 hN (by assumption) (by assumption) (by assumption) | exact Ow.into_m2 hN (by assumption) (by assumption) (by assumption) | exact Ow.into_m0 hN (by assumption) (by assumption)) (by first | exact Ow.into_b1 hN (by assumption) | exact Ow.into_b0 hN (by assumption) | exact Ow.into_m1 hN (by assumption) (by assumption) (by assumption) | exact Ow.into_m2 hN (by assumption) (by assumption) (by assumption) | exact Ow.into_m0 hN (by assumption) (by assumption)) _ _ ((h3.trans h6).trans (Ow.same_new h_p_2)) (Same.free (h3.trans h6) h_p_2) upd_same
        · refine ⟨_, rfl, ?_⟩
          refine ⟨by show 2 ≤ sizeLine; decide, fun p_3 h_p_3 => ?_⟩
          exact kont (Ow.knr ((Ow.Tf_Kind.plain kd_w)) number % 2 ^ (Ow.kw ((Ow.Tf_Kind.plain kd_w))).toNat) ("") (by first | exact Ow.into_b1 hN (by assumption) | exact Ow.into_b0 hN (by assumption) | exact Ow.into_m1 hN (by assumption) (by assumption) (by assumption) | exact Ow.into_m2 hN (by assumption) (by assumption) (by assumption) | exact Ow.into_m0 hN (by assumption) (by assumption)) (by first | exact Ow.into_b1 hN (by assumption) | exact Ow.into_b0 hN (by assumption) | exact Ow.into_m1 hN (by assumption) (by assumption) (by assumption) | exact Ow.into_m2 hN (by assumption) (by assumption) (by assumption) | exact Ow.into_m0 hN (by assumption) (by assumption)) _ _ ((h3.trans h6).trans (Ow.same_new h_p_3)) (Same.free (h3.trans h6) h_p_3) upd_same
      · refine ⟨_, rfl, ?_⟩
        refine ⟨_, _, _, _, _, rfl, .inl ⟨rfl, rfl⟩, (h3 _ _ c0), rfl, ?_⟩
        refine ⟨_, rfl, ?_⟩
        refine ⟨_, _, ((Ow.Tf_Kind.plain kd_w)), _, rfl, (h3 _ _ c0), (by walk_at "o2"), fun b_2 h10 p_4 Hn_3 h11 h12 h13 => ?_⟩
        refine ⟨_, _, rfl, (SqT.of h13), rfl, ?_⟩
        refine ⟨_, _, rfl, ?_⟩
        refine ⟨_, _, rfl, ?_⟩
        refine ⟨rfl, ?_⟩
        refine ⟨_, rfl, ?_⟩
        refine ⟨_, rfl, ?_⟩
        refine Ow.ifb (fun h14 => ?_) (fun h14 => ?_)
        · refine ⟨_, rfl, ?_⟩
          refine ⟨_, rfl, ?_⟩
          refine ⟨by show 2 ≤ sizeLine; decide, fun p_5 h_p_5 => ?_⟩
          exact kont (number % 2 ^ (Ow.kw ((Ow.Tf_Kind.plain kd_w))).toNat) ("round") (by first | exact Ow.into_b1 hN (by assumption) | exact Ow.into_b0 hN (by assumption) | exact Ow.into_m1 hN (by assumption) (by assumption) (by assumption) | exact Ow.into_m2 hN (by assumption) (by assumption) (by assumption) | exact Ow.into_m0 hN (by assumption) (by assumption)) (by first | exact Ow.into_b1 hN (by assumption) | exact Ow.into_b0 hN (by assumption) | exact Ow.into_m1 hN (by assumption) (by assumption) (by assumption) | exact Ow.into_m2 hN (by assumption) (by assumption) (by assumption) | exact Ow.into_m0 hN (by assumption) (by assumption)) _ _ ((h3.trans h11).trans (Ow.same_new h_p_5)) (Same.free (h3.trans h11) h_p_5) upd_same
        · refine ⟨_, rfl, ?_⟩
          refine ⟨by show 2 ≤ sizeLine; decide, fun p_6 h_p_6 => ?_⟩
          exact kont (number % 2 ^ (Ow.kw ((Ow.Tf_Kind.plain kd_w))).toNat) ("") (by first | exact Ow.into_b1 hN (by assumption) | exact Ow.into_b0 hN (by assumption) | exact Ow.into_m1 hN (by assumption) (by assumption) (by assumption) | exact Ow.into_m2 hN (by assumption) (by assumption) (by assumption) | exact Ow.into_m0 hN (by assumption) (by assumption)) (by first | exact Ow.into_b1 hN (by assumption) | exact Ow.into_b0 hN (by assumption) | exact Ow.into_m1 hN (by assumption) (by assumption) (by assumption) | exact Ow.into_m2 hN (by assumption) (by assumption) (by assumption) | exact Ow.into_m0 hN (by assumption) (by assumption)) _ _ ((h3.trans h11).trans (Ow.same_new h_p_6)) (Same.free (h3.trans h11) h_p_6) upd_same
    · replace c0 : H kind = some (.ins T.k_Signed.C dx_kind [(("width" : Str), V.int (kd_w_2)), (("point" : Str), V.int (0))]) := c0
      have hk := Ow.krng c1
      have hl := Ow.kle c1
      have hg := Ow.kge c1
      simp only [Ow.KOk] at c1
      simp only [Ow.kw] at hk
      simp only [Ow.kle1] at hl
      simp only [Ow.kge1] at hg
      refine ⟨_, rfl, ?_⟩
      refine ⟨_, _, _, Ow.cls_Way T wy, sp_Way_rounded T, rfl, (by cases wy <;> first | exact .inl ⟨rfl, rfl⟩ | exact .inr (.inl ⟨rfl, rfl⟩) | exact .inr (.inr (.inl ⟨rfl, rfl⟩)) | exact .inr (.inr (.inr (⟨rfl, rfl⟩)))), c2, rfl, ?_⟩
      refine ⟨_, rfl, ?_⟩
      refine ⟨_, rfl, ?_⟩
      refine ⟨_, _, _, _, V.int (0), rfl, c0, T.k_Signed.cl, T.na_Signed_point, rfl, ?_⟩
      refine ⟨_, _, rfl, rfl, (by first | exact .inr (Ow.shlz (n := 1) (by assumption) (by decide) (by decide) (by decide)) | first | (walk_at "o2")), fun s_2 (h_s_2 : s_2 = top * 1) => ?_⟩
      obtain rfl : top = s_2 := by omega
      refine ⟨_, rfl, ?_⟩
      refine ⟨_, _, _, wy, _, rfl, c2, (Ow.Sz.mono c3 (by decide : 2600 ≤ 4000)), (by walk_at "o2"), c5, fun number_2 h15 h16 Hn_4 h17 => ?_⟩
      have hN : number_2 = Ow.rnd wy (top * 2 ^ (Ow.kp ((Ow.Tf_Kind.signed kd_w_2))).toNat) bottom := by first | exact Ow.into_0 (by assumption) | exact Ow.into_n (by assumption) (by assumption)
      refine ⟨_, rfl, ?_⟩
      refine ⟨_, rfl, ?_⟩
      refine Ow.ifb (fun h18 => ?_) (fun h18 => ?_)
      · refine ⟨_, rfl, ?_⟩
        refine ⟨_, _, _, _, _, rfl, .inr (.inl ⟨rfl, rfl⟩), (h17 _ _ c0), rfl, ?_⟩
        refine ⟨_, rfl, ?_⟩
        refine ⟨_, _, ((Ow.Tf_Kind.signed kd_w_2)), _, rfl, (h17 _ _ c0), (by walk_at "o2"), fun b_3 h19 p_7 Hn_5 h20 h21 h22 => ?_⟩
        refine ⟨_, _, rfl, (SqT.of h22), rfl, ?_⟩
        refine ⟨_, _, rfl, ?_⟩
        refine ⟨_, _, rfl, ?_⟩
        refine ⟨rfl, ?_⟩
        refine ⟨_, rfl, ?_⟩
        refine ⟨_, rfl, ?_⟩
        refine Ow.ifb (fun h23 => ?_) (fun h23 => ?_)
        · refine ⟨_, rfl, ?_⟩
          refine ⟨_, rfl, ?_⟩
          refine ⟨by show 2 ≤ sizeLine; decide, fun p_8 h_p_8 => ?_⟩
          exact kont (Ow.knr ((Ow.Tf_Kind.signed kd_w_2)) number_2 % 2 ^ (Ow.kw ((Ow.Tf_Kind.signed kd_w_2))).toNat) ("stop") (by first | exact Ow.into_b1 hN (by assumption) | exact Ow.into_b0 hN (by assumption) | exact Ow.into_m1 hN (by assumption) (by assumption) (by assumption) | exact Ow.into_m2 hN (by assumption) (by assumption) (by assumption) | exact Ow.into_m0 hN (by assumption) (by assumption)) (by first | exact Ow.into_b1 hN (by assumption) | exact Ow.into_b0 hN (by assumption) | exact Ow.into_m1 hN (by assumption) (by assumption) (by assumption) | exact Ow.into_m2 hN (by assumption) (by assumption) (by assumption) | exact Ow.into_m0 hN (by assumption) (by assumption)) _ _ ((h17.trans h20).trans (Ow.same_new h_p_8)) (Same.free (h17.trans h20) h_p_8) upd_same
        · refine ⟨_, rfl, ?_⟩
          refine ⟨by show 2 ≤ sizeLine; decide, fun p_9 h_p_9 => ?_⟩
          exact kont (Ow.knr ((Ow.Tf_Kind.signed kd_w_2)) number_2 % 2 ^ (Ow.kw ((Ow.Tf_Kind.signed kd_w_2))).toNat) ("") (by first | exact Ow.into_b1 hN (by assumption) | exact Ow.into_b0 hN (by assumption) | exact Ow.into_m1 hN (by assumption) (by assumption) (by assumption) | exact Ow.into_m2 hN (by assumption) (by assumption) (by assumption) | exact Ow.into_m0 hN (by assumption) (by assumption)) (by first | exact Ow.into_b1 hN (by assumption) | exact Ow.into_b0 hN (by assumption) | exact Ow.into_m1 hN (by assumption) (by assumption) (by assumption) | exact Ow.into_m2 hN (by assumption) (by assumption) (by assumption) | exact Ow.into_m0 hN (by assumption) (by assumption)) _ _ ((h17.trans h20).trans (Ow.same_new h_p_9)) (Same.free (h17.trans h20) h_p_9) upd_same
      · refine ⟨_, rfl, ?_⟩
        refine ⟨_, _, _, _, _, rfl, .inr (.inl ⟨rfl, rfl⟩), (h17 _ _ c0), rfl, ?_⟩
        refine ⟨_, rfl, ?_⟩
        refine ⟨_, _, ((Ow.Tf_Kind.signed kd_w_2)), _, rfl, (h17 _ _ c0), (by walk_at "o2"), fun b_4 h24 p_10 Hn_6 h25 h26 h27 => ?_⟩
        refine ⟨_, _, rfl, (SqT.of h27), rfl, ?_⟩
        refine ⟨_, _, rfl, ?_⟩
        refine ⟨_, _, rfl, ?_⟩
        refine ⟨rfl, ?_⟩
        refine ⟨_, rfl, ?_⟩
        refine ⟨_, rfl, ?_⟩
        refine Ow.ifb (fun h28 => ?_) (fun h28 => ?_)
        · refine ⟨_, rfl, ?_⟩
          refine ⟨_, rfl, ?_⟩
          refine ⟨by show 2 ≤ sizeLine; decide, fun p_11 h_p_11 => ?_⟩
          exact kont (number_2 % 2 ^ (Ow.kw ((Ow.Tf_Kind.signed kd_w_2))).toNat) ("round") (by first | exact Ow.into_b1 hN (by assumption) | exact Ow.into_b0 hN (by assumption) | exact Ow.into_m1 hN (by assumption) (by assumption) (by assumption) | exact Ow.into_m2 hN (by assumption) (by assumption) (by assumption) | exact Ow.into_m0 hN (by assumption) (by assumption)) (by first | exact Ow.into_b1 hN (by assumption) | exact Ow.into_b0 hN (by assumption) | exact Ow.into_m1 hN (by assumption) (by assumption) (by assumption) | exact Ow.into_m2 hN (by assumption) (by assumption) (by assumption) | exact Ow.into_m0 hN (by assumption) (by assumption)) _ _ ((h17.trans h25).trans (Ow.same_new h_p_11)) (Same.free (h17.trans h25) h_p_11) upd_same
        · refine ⟨_, rfl, ?_⟩
          refine ⟨by show 2 ≤ sizeLine; decide, fun p_12 h_p_12 => ?_⟩
          exact kont (number_2 % 2 ^ (Ow.kw ((Ow.Tf_Kind.signed kd_w_2))).toNat) ("") (by first | exact Ow.into_b1 hN (by assumption) | exact Ow.into_b0 hN (by assumption) | exact Ow.into_m1 hN (by assumption) (by assumption) (by assumption) | exact Ow.into_m2 hN (by assumption) (by assumption) (by assumption) | exact Ow.into_m0 hN (by assumption) (by assumption)) (by first | exact Ow.into_b1 hN (by assumption) | exact Ow.into_b0 hN (by assumption) | exact Ow.into_m1 hN (by assumption) (by assumption) (by assumption) | exact Ow.into_m2 hN (by assumption) (by assumption) (by assumption) | exact Ow.into_m0 hN (by assumption) (by assumption)) _ _ ((h17.trans h25).trans (Ow.same_new h_p_12)) (Same.free (h17.trans h25) h_p_12) upd_same
    · replace c0 : H kind = some (.ins T.k_Pointed.C dx_kind [(("width" : Str), V.int (kd_w_3)), (("point" : Str), V.int (kd_p))]) := c0
      have hk := Ow.krng c1
      have hl := Ow.kle c1
      have hg := Ow.kge c1
      simp only [Ow.KOk] at c1
      simp only [Ow.kw] at hk
      simp only [Ow.kle1] at hl
      simp only [Ow.kge1] at hg
      refine ⟨_, rfl, ?_⟩
      refine ⟨_, _, _, Ow.cls_Way T wy, sp_Way_rounded T, rfl, (by cases wy <;> first | exact .inl ⟨rfl, rfl⟩ | exact .inr (.inl ⟨rfl, rfl⟩) | exact .inr (.inr (.inl ⟨rfl, rfl⟩)) | exact .inr (.inr (.inr (⟨rfl, rfl⟩)))), c2, rfl, ?_⟩
      refine ⟨_, rfl, ?_⟩
      refine ⟨_, rfl, ?_⟩
      refine ⟨_, _, _, _, V.int (kd_p), rfl, c0, T.k_Pointed.cl, T.na_Pointed_point, rfl, ?_⟩
      refine ⟨_, _, rfl, rfl, (.inr (Ow.shlz (n := 31) c3 (by walk_at "o2") (by walk_at "o2") (by decide))), fun s_3 h_s_3 => ?_⟩
      have z_s_3 : Ow.Sz 2632 s_3 := by rw [h_s_3]; exact (Ow.Sz.shl (n := 31) c3 (by walk_at "o2"))
      refine ⟨_, rfl, ?_⟩
      refine ⟨_, _, _, wy, _, rfl, c2, (Ow.Sz.mono z_s_3 (by decide : 2632 ≤ 4000)), (by walk_at "o2"), c5, fun number_3 h29 h30 Hn_7 h31 => ?_⟩
      have hN : number_3 = Ow.rnd wy (top * 2 ^ (Ow.kp ((Ow.Tf_Kind.point kd_w_3 kd_p))).toNat) bottom := by first | exact Ow.into_0 (by assumption) | exact Ow.into_n (by assumption) (by assumption)
      refine ⟨_, rfl, ?_⟩
      refine ⟨_, rfl, ?_⟩
      refine Ow.ifb (fun h32 => ?_) (fun h32 => ?_)
      · refine ⟨_, rfl, ?_⟩
        refine ⟨_, _, _, _, _, rfl, .inr (.inr (⟨rfl, rfl⟩)), (h31 _ _ c0), rfl, ?_⟩
        refine ⟨_, rfl, ?_⟩
        refine ⟨_, _, ((Ow.Tf_Kind.point kd_w_3 kd_p)), _, rfl, (h31 _ _ c0), (by walk_at "o2"), fun b_5 h33 p_13 Hn_8 h34 h35 h36 => ?_⟩
        refine ⟨_, _, rfl, (SqT.of h36), rfl, ?_⟩
        refine ⟨_, _, rfl, ?_⟩
        refine ⟨_, _, rfl, ?_⟩
        refine ⟨rfl, ?_⟩
        refine ⟨_, rfl, ?_⟩
        refine ⟨_, rfl, ?_⟩
        refine Ow.ifb (fun h37 => ?_) (fun h37 => ?_)
        · refine ⟨_, rfl, ?_⟩
          refine ⟨_, rfl, ?_⟩
          refine ⟨by show 2 ≤ sizeLine; decide, fun p_14 h_p_14 => ?_⟩
          exact kont (Ow.knr ((Ow.Tf_Kind.point kd_w_3 kd_p)) number_3 % 2 ^ (Ow.kw ((Ow.Tf_Kind.point kd_w_3 kd_p))).toNat) ("stop") (by first | exact Ow.into_b1 hN (by assumption) | exact Ow.into_b0 hN (by assumption) | exact Ow.into_m1 hN (by assumption) (by assumption) (by assumption) | exact Ow.into_m2 hN (by assumption) (by assumption) (by assumption) | exact Ow.into_m0 hN (by assumption) (by assumption)) (by first | exact Ow.into_b1 hN (by assumption) | exact Ow.into_b0 hN (by assumption) | exact Ow.into_m1 hN (by assumption) (by assumption) (by assumption) | exact Ow.into_m2 hN (by assumption) (by assumption) (by assumption) | exact Ow.into_m0 hN (by assumption) (by assumption)) _ _ ((h31.trans h34).trans (Ow.same_new h_p_14)) (Same.free (h31.trans h34) h_p_14) upd_same
        · refine ⟨_, rfl, ?_⟩
          refine ⟨by show 2 ≤ sizeLine; decide, fun p_15 h_p_15 => ?_⟩
          exact kont (Ow.knr ((Ow.Tf_Kind.point kd_w_3 kd_p)) number_3 % 2 ^ (Ow.kw ((Ow.Tf_Kind.point kd_w_3 kd_p))).toNat) ("") (by first | exact Ow.into_b1 hN (by assumption) | exact Ow.into_b0 hN (by assumption) | exact Ow.into_m1 hN (by assumption) (by assumption) (by assumption) | exact Ow.into_m2 hN (by assumption) (by assumption) (by assumption) | exact Ow.into_m0 hN (by assumption) (by assumption)) (by first | exact Ow.into_b1 hN (by assumption) | exact Ow.into_b0 hN (by assumption) | exact Ow.into_m1 hN (by assumption) (by assumption) (by assumption) | exact Ow.into_m2 hN (by assumption) (by assumption) (by assumption) | exact Ow.into_m0 hN (by assumption) (by assumption)) _ _ ((h31.trans h34).trans (Ow.same_new h_p_15)) (Same.free (h31.trans h34) h_p_15) upd_same
      · refine ⟨_, rfl, ?_⟩
        refine ⟨_, _, _, _, _, rfl, .inr (.inr (⟨rfl, rfl⟩)), (h31 _ _ c0), rfl, ?_⟩
        refine ⟨_, rfl, ?_⟩
        refine ⟨_, _, ((Ow.Tf_Kind.point kd_w_3 kd_p)), _, rfl, (h31 _ _ c0), (by walk_at "o2"), fun b_6 h38 p_16 Hn_9 h39 h40 h41 => ?_⟩
        refine ⟨_, _, rfl, (SqT.of h41), rfl, ?_⟩
        refine ⟨_, _, rfl, ?_⟩
        refine ⟨_, _, rfl, ?_⟩
        refine ⟨rfl, ?_⟩
        refine ⟨_, rfl, ?_⟩
        refine ⟨_, rfl, ?_⟩
        refine Ow.ifb (fun h42 => ?_) (fun h42 => ?_)
        · refine ⟨_, rfl, ?_⟩
          refine ⟨_, rfl, ?_⟩
          refine ⟨by show 2 ≤ sizeLine; decide, fun p_17 h_p_17 => ?_⟩
          exact kont (number_3 % 2 ^ (Ow.kw ((Ow.Tf_Kind.point kd_w_3 kd_p))).toNat) ("round") (by first | exact Ow.into_b1 hN (by assumption) | exact Ow.into_b0 hN (by assumption) | exact Ow.into_m1 hN (by assumption) (by assumption) (by assumption) | exact Ow.into_m2 hN (by assumption) (by assumption) (by assumption) | exact Ow.into_m0 hN (by assumption) (by assumption)) (by first | exact Ow.into_b1 hN (by assumption) | exact Ow.into_b0 hN (by assumption) | exact Ow.into_m1 hN (by assumption) (by assumption) (by assumption) | exact Ow.into_m2 hN (by assumption) (by assumption) (by assumption) | exact Ow.into_m0 hN (by assumption) (by assumption)) _ _ ((h31.trans h39).trans (Ow.same_new h_p_17)) (Same.free (h31.trans h39) h_p_17) upd_same
        · refine ⟨_, rfl, ?_⟩
          refine ⟨by show 2 ≤ sizeLine; decide, fun p_18 h_p_18 => ?_⟩
          exact kont (number_3 % 2 ^ (Ow.kw ((Ow.Tf_Kind.point kd_w_3 kd_p))).toNat) ("") (by first | exact Ow.into_b1 hN (by assumption) | exact Ow.into_b0 hN (by assumption) | exact Ow.into_m1 hN (by assumption) (by assumption) (by assumption) | exact Ow.into_m2 hN (by assumption) (by assumption) (by assumption) | exact Ow.into_m0 hN (by assumption) (by assumption)) (by first | exact Ow.into_b1 hN (by assumption) | exact Ow.into_b0 hN (by assumption) | exact Ow.into_m1 hN (by assumption) (by assumption) (by assumption) | exact Ow.into_m2 hN (by assumption) (by assumption) (by assumption) | exact Ow.into_m0 hN (by assumption) (by assumption)) _ _ ((h31.trans h39).trans (Ow.same_new h_p_18)) (Same.free (h31.trans h39) h_p_18) upd_same
theorem ok_l_whole (T : Tx K mg) : FnOk P w K mg base CX0 1 T.d_l_whole.f T.d_l_whole.fd ["_law_found"] (sp_l_whole T) := by
  refine T.d_l_whole.F.ok sc_l_whole (fun vs H Q E h => ?_) (fun cdv A outer s H vs Q E hr h => ?_)
  · obtain ⟨found, rfl, _⟩ := h
    rfl
  · obtain ⟨found, rfl, kont⟩ := h
    refine ⟨_, (pss_one (ps_ret (pe_and (pe_callB call_isi (by rfl) T.z_isinstance (by decide +kernel) (pa_cons (pv 0) (pa_cons (pe_bltn (v := .ty "int") (by rfl) T.z_int (by decide +kernel) rfl) pa_nil))) (pe_one (pe_not (pe_callB call_isi (by rfl) T.z_isinstance (by decide +kernel) (pa_cons (pv 0) (pa_cons (pe_bltn (v := .ty "bool") (by rfl) T.z_bool (by decide +kernel) rfl) pa_nil)))))))), ?_⟩
    refine ⟨_, rfl, ?_⟩
    refine ⟨_, _, _, _, true, rfl, .ty _, .base (.int _), kit_ty (by decide +kernel), ?_⟩
    refine ⟨_, rfl, ?_⟩
    refine iteT ?_
    refine ⟨_, rfl, ?_⟩
    refine ⟨_, _, _, _, false, rfl, .ty _, .base (.int _), kit_ty (by decide +kernel), ?_⟩
    refine ⟨_, rfl, ?_⟩
    exact kont
theorem ok_l_good (T : Tx K mg) : FnOk P w K mg base CX0 2 T.d_l_good.f T.d_l_good.fd ["_law_found", "_law_due_here"] (sp_l_good T) := by
  refine T.d_l_good.F.ok sc_l_good (fun vs H Q E h => ?_) (fun cdv A outer s H vs Q E hr h => ?_)
  · obtain ⟨found, due, f, m, g, l, rfl, _⟩ := h
    rfl
  · obtain ⟨found, due, f, m, g, l, rfl, c0, c1, c2, c3, c4, kont⟩ := h
    refine ⟨_, (pss_cons (ps_if (PW.pt (pw_or (pt_not (pt_val (pe_callB call_isi (by rfl) T.z_isinstance (by decide +kernel) (pa_cons (pv 0) (pa_cons (pe_bltn (v := .ty "tuple") (by rfl) T.z_tuple (by decide +kernel) rfl) pa_nil))))) (pw_or (pt_cmpR op_ne (Ow.pe_nmi (pe_callB call_len_seq (by rfl) T.z_len (by decide +kernel) (pa_cons (pv 0) pa_nil))) pe_int (nomark _)) (pw_or (pt_not (pt_val (pe_call (Ow.ok_l_whole T) (hr.mono (by decide : 1 ≤ 1)) (by rfl) T.d_l_whole.m T.d_l_whole.F.kp T.d_l_whole.b .nil pass0 (pa_cons (pe_ix ix_tup (pv 0) pe_int (fun _ _ => rfl)) pa_nil)))) (pw_or1 (pt_not (pt_val (pe_callB call_isi (by rfl) T.z_isinstance (by decide +kernel) (pa_cons (pe_ix ix_tup (pv 0) pe_int (fun _ _ => rfl)) (pa_cons (pe_bltn (v := .ty "str") (by rfl) T.z_str (by decide +kernel) rfl) pa_nil)))))))))) (pss_one (ps_ret pe_bl)) pss_nil)
        (pss_one (ps_ret (pe_cmpR (op_eqD hr.units) (pv 0) (pv 1) (nomark _))))), ?_⟩
    refine ⟨_, rfl, ?_⟩
    refine ⟨_, _, _, _, true, rfl, .ty _, .base (.tup c0), kit_ty (by decide +kernel), ?_⟩
    refine ⟨_, rfl, ?_⟩
    refine iteF ?_
    refine ⟨_, rfl, ?_⟩
    refine ⟨_, _, rfl, .inr (SqT.of c0), ?_⟩
    refine ⟨_, rfl, fun len h_len => ?_⟩
    replace h_len : len = 2 := h_len
    refine ⟨rfl, ?_⟩
    refine ⟨_, rfl, ?_⟩
    refine Ow.ifnei (fun h1 => ?_) (fun h1 => ?_)
    · refine iteT ?_
      exact ((by walk_at "o2") : False).elim
    · refine ⟨_, rfl, ?_⟩
      refine ⟨_, _, _, _, rfl, rfl, (SqT.of c0), (by first | rfl | decide), ?_⟩
      refine ⟨_, rfl, ?_⟩
      refine ⟨_, rfl, ?_⟩
      refine iteF ?_
      refine ⟨_, rfl, ?_⟩
      refine ⟨_, _, _, _, rfl, rfl, (SqT.of c0), (by first | rfl | decide), ?_⟩
      refine ⟨_, _, _, _, true, rfl, .ty _, .base (.str _), kit_ty (by decide +kernel), ?_⟩
      refine ⟨_, rfl, ?_⟩
      refine iteF ?_
      have so : PyData.strOk m = true := by rcases c4 with rfl | rfl | rfl <;> decide +kernel
      have so2 : PyData.strOk l = true := c3 ▸ so
      refine ⟨_, rfl, ?_⟩
      refine ⟨_, rfl, ?_⟩
      refine ⟨(.tuple [PyData.int f, PyData.str m]), (.tuple [PyData.int g, PyData.str l]), (.tup (SqT.of c0) (.cons (.int _) (.cons (.str _) .nil))), (.tup (SqT.of c1) (.cons (.int _) (.cons (.str _) .nil))), (by first | rfl | exact Ow.shp (by first | rfl | (simp only [PyData.canLay0, PyData.canLayAll0, Bool.and_true, Bool.true_and]; first | decide +kernel | assumption | (simp_all; done))) (by simp [PyData.depth, PyData.depthAll])), (by first | rfl | exact Ow.shp (by first | rfl | (simp only [PyData.canLay0, PyData.canLayAll0, Bool.and_true, Bool.true_and]; first | decide +kernel | assumption | (simp_all; done))) (by simp [PyData.depth, PyData.depthAll])), ?_⟩
      rw [show PyData.eqv ((.tuple [PyData.int f, PyData.str m])) ((.tuple [PyData.int g, PyData.str l])) = decide (f = g ∧ m = l) by (rw [Bool.eq_iff_iff]; simp [PyData.eqv, PyData.eqvAll])]
      refine Ow.eqd (by walk_at "o2") ?_
      exact kont _ (Same.refl _)
theorem ok_l_due (T : Tx K mg) : FnOk P w K mg base CX0 2 T.d_l_due.f T.d_l_due.fd ["_law_sort", "_law_width", "_law_number_here", "_law_stops"] (sp_l_due T) := by
  refine T.d_l_due.F.ok sc_l_due (fun vs H Q E h => ?_) (fun cdv A outer s H vs Q E hr h => ?_)
  · obtain ⟨sort, width, number, stops, kd, rfl, _⟩ := h
    rfl
  · obtain ⟨sort, width, number, stops, kd, rfl, c0, c1, c2, kont⟩ := h
    refine ⟨_, (pss_cons (ps_asg (pe_call (Ow.ok_l_ends T) (hr.mono (by decide : 1 ≤ 1)) (by rfl) T.d_l_ends.m T.d_l_ends.F.kp T.d_l_ends.b .nil pass0 (pa_cons (pv 0) (pa_cons (pv 1) pa_nil))) (pg_unl rfl (pgs_cons (pg_name (i := 4) sc_l_due.nd rfl (Or.inl rfl)) (pgs_cons (pg_name (i := 5) sc_l_due.nd rfl (Or.inl rfl)) pgs_nil))))
        (pss_cons (ps_if (pt_chain op_le op_le (pv 4) (pv 2) (pv 5)) (pss_one (ps_ret (pe_tup (pa_cons (pe_op Ow.op_modN (pv 2) (pe_op Ow.op_shl1 pe_int (pv 1))) (pa_cons pe_str pa_nil))))) pss_nil)
        (pss_cons (ps_if (pt_not (pt_val (pv 3))) (pss_one (ps_ret (pe_tup (pa_cons (pe_op Ow.op_modN (pv 2) (pe_op Ow.op_shl1 pe_int (pv 1))) (pa_cons pe_str pa_nil))))) pss_nil)
        (pss_cons (ps_if (pt_cmpR op_lt (pv 2) (pv 4) (nomark _)) (pss_one (ps_ret (pe_tup (pa_cons (pe_op Ow.op_modN (pv 4) (pe_op Ow.op_shl1 pe_int (pv 1))) (pa_cons pe_str pa_nil))))) pss_nil)
        (pss_one (ps_ret (pe_tup (pa_cons (pv 5) (pa_cons pe_str pa_nil))))))))), ?_⟩
    rcases kd with ⟨kd_w⟩ | ⟨kd_w_2⟩ | ⟨kd_w_3, kd_p⟩
    · have hkk := c2
      have hw0 : width = Ow.kw ((Ow.Tf_Kind.plain kd_w)) := c1
      simp only [Ow.ks] at c0
      simp only [Ow.kw] at c1
      have hk := Ow.krng c2
      have hl := Ow.kle c2
      have hg := Ow.kge c2
      simp only [Ow.KOk] at c2
      simp only [Ow.kw] at hk
      simp only [Ow.kle1] at hl
      simp only [Ow.kge1] at hg
      refine ⟨_, rfl, ?_⟩
      refine ⟨_, rfl, ?_⟩
      refine ⟨_, _, ((((Ow.Tf_Kind.plain kd_w)))), rfl, (by walk_at "o2"), (by walk_at "o2"), (by walk_at "o2"), fun lo hi h1 h2 h3 h4 p Hn h5 h6 h7 => ?_⟩
      refine ⟨_, _, rfl, (SqL.of h7), rfl, ?_⟩
      refine ⟨_, _, rfl, ?_⟩
      refine ⟨_, _, rfl, ?_⟩
      refine ⟨rfl, ?_⟩
      refine ⟨_, rfl, ?_⟩
      refine ⟨_, rfl, ?_⟩
      refine ⟨_, _, rfl, rfl, ?_⟩
      refine ⟨_, rfl, ?_⟩
      refine Ow.ifd (fun h8 => ?_) (fun h8 => ?_)
      · refine ⟨_, rfl, ?_⟩
        refine ⟨_, _, rfl, rfl, ?_⟩
        refine ⟨_, rfl, ?_⟩
        refine Ow.ifd (fun h9 => ?_) (fun h9 => ?_)
        · refine ⟨_, rfl, ?_⟩
          refine ⟨_, rfl, ?_⟩
          refine ⟨_, rfl, rfl, (by walk_at "o2"), fun B h_B h0_B => ?_⟩
          have z_B : Ow.Sz 2202 B := by rw [h_B]; exact Ow.Sz.pow (n := 2201) (by walk_at "o2")
          refine ⟨_, _, rfl, rfl, (by walk_at "o2"), fun r h_r h0_r h1_r => ?_⟩
          refine ⟨by show 2 ≤ sizeLine; decide, fun p_2 h_p_2 => ?_⟩
          exact kont r ("") (by first | (have z := Ow.due_in (kd := ((Ow.Tf_Kind.plain kd_w))) (n := number) (s := stops) (by assumption) (by assumption) (by assumption) (by omega) (by omega); first | exact z.1 | exact z.2) | (have z := Ow.due_round (kd := ((Ow.Tf_Kind.plain kd_w))) (n := number) (s := stops) (by assumption) (by assumption) (by assumption) (by omega) (by assumption); first | exact z.1 | exact z.2) | (have z := Ow.due_lo (kd := ((Ow.Tf_Kind.plain kd_w))) (n := number) (s := stops) (by assumption) (by assumption) (by assumption) (by assumption) (by assumption) (by assumption); first | exact z.1 | exact z.2) | (have z := Ow.due_hi (kd := ((Ow.Tf_Kind.plain kd_w))) (n := number) (s := stops) hkk (by assumption) (by omega) (by omega) (by assumption); first | exact z.1 | exact z.2)) (by first | (have z := Ow.due_in (kd := ((Ow.Tf_Kind.plain kd_w))) (n := number) (s := stops) (by assumption) (by assumption) (by assumption) (by omega) (by omega); first | exact z.1 | exact z.2) | (have z := Ow.due_round (kd := ((Ow.Tf_Kind.plain kd_w))) (n := number) (s := stops) (by assumption) (by assumption) (by assumption) (by omega) (by assumption); first | exact z.1 | exact z.2) | (have z := Ow.due_lo (kd := ((Ow.Tf_Kind.plain kd_w))) (n := number) (s := stops) (by assumption) (by assumption) (by assumption) (by assumption) (by assumption) (by assumption); first | exact z.1 | exact z.2) | (have z := Ow.due_hi (kd := ((Ow.Tf_Kind.plain kd_w))) (n := number) (s := stops) hkk (by assumption) (by omega) (by omega) (by assumption); first | exact z.1 | exact z.2)) _ _ (h5.trans (Ow.same_new h_p_2)) (Same.free h5 h_p_2) upd_same
        · refine ⟨_, rfl, ?_⟩
          refine ⟨_, rfl, ?_⟩
          refine Ow.ifnb (fun h10 => ?_) (fun h10 => ?_)
          · refine ⟨_, rfl, ?_⟩
            refine ⟨_, rfl, ?_⟩
            refine ⟨_, rfl, rfl, (by walk_at "o2"), fun B_2 h_B_2 h0_B_2 => ?_⟩
            have z_B_2 : Ow.Sz 2202 B_2 := by rw [h_B_2]; exact Ow.Sz.pow (n := 2201) (by walk_at "o2")
            refine ⟨_, _, rfl, rfl, (by walk_at "o2"), fun r_2 h_r_2 h0_r_2 h1_r_2 => ?_⟩
            refine ⟨by show 2 ≤ sizeLine; decide, fun p_3 h_p_3 => ?_⟩
            exact kont r_2 ("round") (by first | (have z := Ow.due_in (kd := ((Ow.Tf_Kind.plain kd_w))) (n := number) (s := stops) (by assumption) (by assumption) (by assumption) (by omega) (by omega); first | exact z.1 | exact z.2) | (have z := Ow.due_round (kd := ((Ow.Tf_Kind.plain kd_w))) (n := number) (s := stops) (by assumption) (by assumption) (by assumption) (by omega) (by assumption); first | exact z.1 | exact z.2) | (have z := Ow.due_lo (kd := ((Ow.Tf_Kind.plain kd_w))) (n := number) (s := stops) (by assumption) (by assumption) (by assumption) (by assumption) (by assumption) (by assumption); first | exact z.1 | exact z.2) | (have z := Ow.due_hi (kd := ((Ow.Tf_Kind.plain kd_w))) (n := number) (s := stops) hkk (by assumption) (by omega) (by omega) (by assumption); first | exact z.1 | exact z.2)) (by first | (have z := Ow.due_in (kd := ((Ow.Tf_Kind.plain kd_w))) (n := number) (s := stops) (by assumption) (by assumption) (by assumption) (by omega) (by omega); first | exact z.1 | exact z.2) | (have z := Ow.due_round (kd := ((Ow.Tf_Kind.plain kd_w))) (n := number) (s := stops) (by assumption) (by assumption) (by assumption) (by omega) (by assumption); first | exact z.1 | exact z.2) | (have z := Ow.due_lo (kd := ((Ow.Tf_Kind.plain kd_w))) (n := number) (s := stops) (by assumption) (by assumption) (by assumption) (by assumption) (by assumption) (by assumption); first | exact z.1 | exact z.2) | (have z := Ow.due_hi (kd := ((Ow.Tf_Kind.plain kd_w))) (n := number) (s := stops) hkk (by assumption) (by omega) (by omega) (by assumption); first | exact z.1 | exact z.2)) _ _ (h5.trans (Ow.same_new h_p_3)) (Same.free h5 h_p_3) upd_same
          · refine ⟨_, rfl, ?_⟩
            refine ⟨_, rfl, ?_⟩
            refine ⟨_, _, rfl, rfl, ?_⟩
            refine ⟨_, rfl, ?_⟩
            refine Ow.ifd (fun h11 => ?_) (fun h11 => ?_)
            · refine ⟨_, rfl, ?_⟩
              refine ⟨_, rfl, ?_⟩
              refine ⟨_, rfl, rfl, (by walk_at "o2"), fun B_3 h_B_3 h0_B_3 => ?_⟩
              have z_B_3 : Ow.Sz 2202 B_3 := by rw [h_B_3]; exact Ow.Sz.pow (n := 2201) (by walk_at "o2")
              refine ⟨_, _, rfl, rfl, (by walk_at "o2"), fun r_3 h_r_3 h0_r_3 h1_r_3 => ?_⟩
              refine ⟨by show 2 ≤ sizeLine; decide, fun p_4 h_p_4 => ?_⟩
              exact kont r_3 ("stop") (by first | (have z := Ow.due_in (kd := ((Ow.Tf_Kind.plain kd_w))) (n := number) (s := stops) (by assumption) (by assumption) (by assumption) (by omega) (by omega); first | exact z.1 | exact z.2) | (have z := Ow.due_round (kd := ((Ow.Tf_Kind.plain kd_w))) (n := number) (s := stops) (by assumption) (by assumption) (by assumption) (by omega) (by assumption); first | exact z.1 | exact z.2) | (have z := Ow.due_lo (kd := ((Ow.Tf_Kind.plain kd_w))) (n := number) (s := stops) (by assumption) (by assumption) (by assumption) (by assumption) (by assumption) (by assumption); first | exact z.1 | exact z.2) | (have z := Ow.due_hi (kd := ((Ow.Tf_Kind.plain kd_w))) (n := number) (s := stops) hkk (by assumption) (by omega) (by omega) (by assumption); first | exact z.1 | exact z.2)) (by first | (have z := Ow.due_in (kd := ((Ow.Tf_Kind.plain kd_w))) (n := number) (s := stops) (by assumption) (by assumption) (by assumption) (by omega) (by omega); first | exact z.1 | exact z.2) | (have z := Ow.due_round (kd := ((Ow.Tf_Kind.plain kd_w))) (n := number) (s := stops) (by assumption) (by assumption) (by assumption) (by omega) (by assumption); first | exact z.1 | exact z.2) | (have z := Ow.due_lo (kd := ((Ow.Tf_Kind.plain kd_w))) (n := number) (s := stops) (by assumption) (by assumption) (by assumption) (by assumption) (by assumption) (by assumption); first | exact z.1 | exact z.2) | (have z := Ow.due_hi (kd := ((Ow.Tf_Kind.plain kd_w))) (n := number) (s := stops) hkk (by assumption) (by omega) (by omega) (by assumption); first | exact z.1 | exact z.2)) _ _ (h5.trans (Ow.same_new h_p_4)) (Same.free h5 h_p_4) upd_same
            · refine ⟨_, rfl, ?_⟩
              refine ⟨by show 2 ≤ sizeLine; decide, fun p_5 h_p_5 => ?_⟩
              exact kont hi ("stop") (by first | (have z := Ow.due_in (kd := ((Ow.Tf_Kind.plain kd_w))) (n := number) (s := stops) (by assumption) (by assumption) (by assumption) (by omega) (by omega); first | exact z.1 | exact z.2) | (have z := Ow.due_round (kd := ((Ow.Tf_Kind.plain kd_w))) (n := number) (s := stops) (by assumption) (by assumption) (by assumption) (by omega) (by assumption); first | exact z.1 | exact z.2) | (have z := Ow.due_lo (kd := ((Ow.Tf_Kind.plain kd_w))) (n := number) (s := stops) (by assumption) (by assumption) (by assumption) (by assumption) (by assumption) (by assumption); first | exact z.1 | exact z.2) | (have z := Ow.due_hi (kd := ((Ow.Tf_Kind.plain kd_w))) (n := number) (s := stops) hkk (by assumption) (by omega) (by omega) (by assumption); first | exact z.1 | exact z.2)) (by first | (have z := Ow.due_in (kd := ((Ow.Tf_Kind.plain kd_w))) (n := number) (s := stops) (by assumption) (by assumption) (by assumption) (by omega) (by omega); first | exact z.1 | exact z.2) | (have z := Ow.due_round (kd := ((Ow.Tf_Kind.plain kd_w))) (n := number) (s := stops) (by assumption) (by assumption) (by assumption) (by omega) (by assumption); first | exact z.1 | exact z.2) | (have z := Ow.due_lo (kd := ((Ow.Tf_Kind.plain kd_w))) (n := number) (s := stops) (by assumption) (by assumption) (by assumption) (by assumption) (by assumption) (by assumption); first | exact z.1 | exact z.2) | (have z := Ow.due_hi (kd := ((Ow.Tf_Kind.plain kd_w))) (n := number) (s := stops) hkk (by assumption) (by omega) (by omega) (by assumption); first | exact z.1 | exact z.2)) _ _ (h5.trans (Ow.same_new h_p_5)) (Same.free h5 h_p_5) upd_same
      · refine ⟨_, rfl, ?_⟩
        refine iteF ?_
        refine ⟨_, rfl, ?_⟩
        refine ⟨_, rfl, ?_⟩
        refine Ow.ifnb (fun h12 => ?_) (fun h12 => ?_)
        · refine ⟨_, rfl, ?_⟩
          refine ⟨_, rfl, ?_⟩
          refine ⟨_, rfl, rfl, (by walk_at "o2"), fun B_4 h_B_4 h0_B_4 => ?_⟩
          have z_B_4 : Ow.Sz 2202 B_4 := by rw [h_B_4]; exact Ow.Sz.pow (n := 2201) (by walk_at "o2")
          refine ⟨_, _, rfl, rfl, (by walk_at "o2"), fun r_4 h_r_4 h0_r_4 h1_r_4 => ?_⟩
          refine ⟨by show 2 ≤ sizeLine; decide, fun p_6 h_p_6 => ?_⟩
          exact kont r_4 ("round") (by first | (have z := Ow.due_in (kd := ((Ow.Tf_Kind.plain kd_w))) (n := number) (s := stops) (by assumption) (by assumption) (by assumption) (by omega) (by omega); first | exact z.1 | exact z.2) | (have z := Ow.due_round (kd := ((Ow.Tf_Kind.plain kd_w))) (n := number) (s := stops) (by assumption) (by assumption) (by assumption) (by omega) (by assumption); first | exact z.1 | exact z.2) | (have z := Ow.due_lo (kd := ((Ow.Tf_Kind.plain kd_w))) (n := number) (s := stops) (by assumption) (by assumption) (by assumption) (by assumption) (by assumption) (by assumption); first | exact z.1 | exact z.2) | (have z := Ow.due_hi (kd := ((Ow.Tf_Kind.plain kd_w))) (n := number) (s := stops) hkk (by assumption) (by omega) (by omega) (by assumption); first | exact z.1 | exact z.2)) (by first | (have z := Ow.due_in (kd := ((Ow.Tf_Kind.plain kd_w))) (n := number) (s := stops) (by assumption) (by assumption) (by assumption) (by omega) (by omega); first | exact z.1 | exact z.2) | (have z := Ow.due_round (kd := ((Ow.Tf_Kind.plain kd_w))) (n := number) (s := stops) (by assumption) (by assumption) (by assumption) (by omega) (by assumption); first | exact z.1 | exact z.2) | (have z := Ow.due_lo (kd := ((Ow.Tf_Kind.plain kd_w))) (n := number) (s := stops) (by assumption) (by assumption) (by assumption) (by assumption) (by assumption) (by assumption); first | exact z.1 | exact z.2) | (have z := Ow.due_hi (kd := ((Ow.Tf_Kind.plain kd_w))) (n := number) (s := stops) hkk (by assumption) (by omega) (by omega) (by assumption); first | exact z.1 | exact z.2)) _ _ (h5.trans (Ow.same_new h_p_6)) (Same.free h5 h_p_6) upd_same
        · refine ⟨_, rfl, ?_⟩
          refine ⟨_, rfl, ?_⟩
          refine ⟨_, _, rfl, rfl, ?_⟩
          refine ⟨_, rfl, ?_⟩
          refine Ow.ifd (fun h13 => ?_) (fun h13 => ?_)
          · refine ⟨_, rfl, ?_⟩
            refine ⟨_, rfl, ?_⟩
            refine ⟨_, rfl, rfl, (by walk_at "o2"), fun B_5 h_B_5 h0_B_5 => ?_⟩
            have z_B_5 : Ow.Sz 2202 B_5 := by rw [h_B_5]; exact Ow.Sz.pow (n := 2201) (by walk_at "o2")
            refine ⟨_, _, rfl, rfl, (by walk_at "o2"), fun r_5 h_r_5 h0_r_5 h1_r_5 => ?_⟩
            refine ⟨by show 2 ≤ sizeLine; decide, fun p_7 h_p_7 => ?_⟩
            exact kont r_5 ("stop") (by first | (have z := Ow.due_in (kd := ((Ow.Tf_Kind.plain kd_w))) (n := number) (s := stops) (by assumption) (by assumption) (by assumption) (by omega) (by omega); first | exact z.1 | exact z.2) | (have z := Ow.due_round (kd := ((Ow.Tf_Kind.plain kd_w))) (n := number) (s := stops) (by assumption) (by assumption) (by assumption) (by omega) (by assumption); first | exact z.1 | exact z.2) | (have z := Ow.due_lo (kd := ((Ow.Tf_Kind.plain kd_w))) (n := number) (s := stops) (by assumption) (by assumption) (by assumption) (by assumption) (by assumption) (by assumption); first | exact z.1 | exact z.2) | (have z := Ow.due_hi (kd := ((Ow.Tf_Kind.plain kd_w))) (n := number) (s := stops) hkk (by assumption) (by omega) (by omega) (by assumption); first | exact z.1 | exact z.2)) (by first | (have z := Ow.due_in (kd := ((Ow.Tf_Kind.plain kd_w))) (n := number) (s := stops) (by assumption) (by assumption) (by assumption) (by omega) (by omega); first | exact z.1 | exact z.2) | (have z := Ow.due_round (kd := ((Ow.Tf_Kind.plain kd_w))) (n := number) (s := stops) (by assumption) (by assumption) (by assumption) (by omega) (by assumption); first | exact z.1 | exact z.2) | (have z := Ow.due_lo (kd := ((Ow.Tf_Kind.plain kd_w))) (n := number) (s := stops) (by assumption) (by assumption) (by assumption) (by assumption) (by assumption) (by assumption); first | exact z.1 | exact z.2) | (have z := Ow.due_hi (kd := ((Ow.Tf_Kind.plain kd_w))) (n := number) (s := stops) hkk (by assumption) (by omega) (by omega) (by assumption); first | exact z.1 | exact z.2)) _ _ (h5.trans (Ow.same_new h_p_7)) (Same.free h5 h_p_7) upd_same
          · refine ⟨_, rfl, ?_⟩
            refine ⟨by show 2 ≤ sizeLine; decide, fun p_8 h_p_8 => ?_⟩
            exact kont hi ("stop") (by first | (have z := Ow.due_in (kd := ((Ow.Tf_Kind.plain kd_w))) (n := number) (s := stops) (by assumption) (by assumption) (by assumption) (by omega) (by omega); first | exact z.1 | exact z.2) | (have z := Ow.due_round (kd := ((Ow.Tf_Kind.plain kd_w))) (n := number) (s := stops) (by assumption) (by assumption) (by assumption) (by omega) (by assumption); first | exact z.1 | exact z.2) | (have z := Ow.due_lo (kd := ((Ow.Tf_Kind.plain kd_w))) (n := number) (s := stops) (by assumption) (by assumption) (by assumption) (by assumption) (by assumption) (by assumption); first | exact z.1 | exact z.2) | (have z := Ow.due_hi (kd := ((Ow.Tf_Kind.plain kd_w))) (n := number) (s := stops) hkk (by assumption) (by omega) (by omega) (by assumption); first | exact z.1 | exact z.2)) (by first | (have z := Ow.due_in (kd := ((Ow.Tf_Kind.plain kd_w))) (n := number) (s := stops) (by assumption) (by assumption) (by assumption) (by omega) (by omega); first | exact z.1 | exact z.2) | (have z := Ow.due_round (kd := ((Ow.Tf_Kind.plain kd_w))) (n := number) (s := stops) (by assumption) (by assumption) (by assumption) (by omega) (by assumption); first | exact z.1 | exact z.2) | (have z := Ow.due_lo (kd := ((Ow.Tf_Kind.plain kd_w))) (n := number) (s := stops) (by assumption) (by assumption) (by assumption) (by assumption) (by assumption) (by assumption); first | exact z.1 | exact z.2) | (have z := Ow.due_hi (kd := ((Ow.Tf_Kind.plain kd_w))) (n := number) (s := stops) hkk (by assumption) (by omega) (by omega) (by assumption); first | exact z.1 | exact z.2)) _ _ (h5.trans (Ow.same_new h_p_8)) (Same.free h5 h_p_8) upd_same
    · have hkk := c2
      have hw0 : width = Ow.kw ((Ow.Tf_Kind.signed kd_w_2)) := c1
      simp only [Ow.ks] at c0
      simp only [Ow.kw] at c1
      have hk := Ow.krng c2
      have hl := Ow.kle c2
      have hg := Ow.kge c2
      simp only [Ow.KOk] at c2
      simp only [Ow.kw] at hk
      simp only [Ow.kle1] at hl
      simp only [Ow.kge1] at hg
      refine ⟨_, rfl, ?_⟩
      refine ⟨_, rfl, ?_⟩
      refine ⟨_, _, ((((Ow.Tf_Kind.signed kd_w_2)))), rfl, (by walk_at "o2"), (by walk_at "o2"), (by walk_at "o2"), fun lo_2 hi_2 h14 h15 h16 h17 p_9 Hn_2 h18 h19 h20 => ?_⟩
      refine ⟨_, _, rfl, (SqL.of h20), rfl, ?_⟩
      refine ⟨_, _, rfl, ?_⟩
      refine ⟨_, _, rfl, ?_⟩
      refine ⟨rfl, ?_⟩
      refine ⟨_, rfl, ?_⟩
      refine ⟨_, rfl, ?_⟩
      refine ⟨_, _, rfl, rfl, ?_⟩
      refine ⟨_, rfl, ?_⟩
      refine Ow.ifd (fun h21 => ?_) (fun h21 => ?_)
      · refine ⟨_, rfl, ?_⟩
        refine ⟨_, _, rfl, rfl, ?_⟩
        refine ⟨_, rfl, ?_⟩
        refine Ow.ifd (fun h22 => ?_) (fun h22 => ?_)
        · refine ⟨_, rfl, ?_⟩
          refine ⟨_, rfl, ?_⟩
          refine ⟨_, rfl, rfl, (by walk_at "o2"), fun B_6 h_B_6 h0_B_6 => ?_⟩
          have z_B_6 : Ow.Sz 2202 B_6 := by rw [h_B_6]; exact Ow.Sz.pow (n := 2201) (by walk_at "o2")
          refine ⟨_, _, rfl, rfl, (by walk_at "o2"), fun r_6 h_r_6 h0_r_6 h1_r_6 => ?_⟩
          refine ⟨by show 2 ≤ sizeLine; decide, fun p_10 h_p_10 => ?_⟩
          exact kont r_6 ("") (by first | (have z := Ow.due_in (kd := ((Ow.Tf_Kind.signed kd_w_2))) (n := number) (s := stops) (by assumption) (by assumption) (by assumption) (by omega) (by omega); first | exact z.1 | exact z.2) | (have z := Ow.due_round (kd := ((Ow.Tf_Kind.signed kd_w_2))) (n := number) (s := stops) (by assumption) (by assumption) (by assumption) (by omega) (by assumption); first | exact z.1 | exact z.2) | (have z := Ow.due_lo (kd := ((Ow.Tf_Kind.signed kd_w_2))) (n := number) (s := stops) (by assumption) (by assumption) (by assumption) (by assumption) (by assumption) (by assumption); first | exact z.1 | exact z.2) | (have z := Ow.due_hi (kd := ((Ow.Tf_Kind.signed kd_w_2))) (n := number) (s := stops) hkk (by assumption) (by omega) (by omega) (by assumption); first | exact z.1 | exact z.2)) (by first | (have z := Ow.due_in (kd := ((Ow.Tf_Kind.signed kd_w_2))) (n := number) (s := stops) (by assumption) (by assumption) (by assumption) (by omega) (by omega); first | exact z.1 | exact z.2) | (have z := Ow.due_round (kd := ((Ow.Tf_Kind.signed kd_w_2))) (n := number) (s := stops) (by assumption) (by assumption) (by assumption) (by omega) (by assumption); first | exact z.1 | exact z.2) | (have z := Ow.due_lo (kd := ((Ow.Tf_Kind.signed kd_w_2))) (n := number) (s := stops) (by assumption) (by assumption) (by assumption) (by assumption) (by assumption) (by assumption); first | exact z.1 | exact z.2) | (have z := Ow.due_hi (kd := ((Ow.Tf_Kind.signed kd_w_2))) (n := number) (s := stops) hkk (by assumption) (by omega) (by omega) (by assumption); first | exact z.1 | exact z.2)) _ _ (h18.trans (Ow.same_new h_p_10)) (Same.free h18 h_p_10) upd_same
        · refine ⟨_, rfl, ?_⟩
          refine ⟨_, rfl, ?_⟩
          refine Ow.ifnb (fun h23 => ?_) (fun h23 => ?_)
          · refine ⟨_, rfl, ?_⟩
            refine ⟨_, rfl, ?_⟩
            refine ⟨_, rfl, rfl, (by walk_at "o2"), fun B_7 h_B_7 h0_B_7 => ?_⟩
            have z_B_7 : Ow.Sz 2202 B_7 := by rw [h_B_7]; exact Ow.Sz.pow (n := 2201) (by walk_at "o2")
            refine ⟨_, _, rfl, rfl, (by walk_at "o2"), fun r_7 h_r_7 h0_r_7 h1_r_7 => ?_⟩
            refine ⟨by show 2 ≤ sizeLine; decide, fun p_11 h_p_11 => ?_⟩
            exact kont r_7 ("round") (by first | (have z := Ow.due_in (kd := ((Ow.Tf_Kind.signed kd_w_2))) (n := number) (s := stops) (by assumption) (by assumption) (by assumption) (by omega) (by omega); first | exact z.1 | exact z.2) | (have z := Ow.due_round (kd := ((Ow.Tf_Kind.signed kd_w_2))) (n := number) (s := stops) (by assumption) (by assumption) (by assumption) (by omega) (by assumption); first | exact z.1 | exact z.2) | (have z := Ow.due_lo (kd := ((Ow.Tf_Kind.signed kd_w_2))) (n := number) (s := stops) (by assumption) (by assumption) (by assumption) (by assumption) (by assumption) (by assumption); first | exact z.1 | exact z.2) | (have z := Ow.due_hi (kd := ((Ow.Tf_Kind.signed kd_w_2))) (n := number) (s := stops) hkk (by assumption) (by omega) (by omega) (by assumption); first | exact z.1 | exact z.2)) (by first | (have z := Ow.due_in (kd := ((Ow.Tf_Kind.signed kd_w_2))) (n := number) (s := stops) (by assumption) (by assumption) (by assumption) (by omega) (by omega); first | exact z.1 | exact z.2) | (have z := Ow.due_round (kd := ((Ow.Tf_Kind.signed kd_w_2))) (n := number) (s := stops) (by assumption) (by assumption) (by assumption) (by omega) (by assumption); first | exact z.1 | exact z.2) | (have z := Ow.due_lo (kd := ((Ow.Tf_Kind.signed kd_w_2))) (n := number) (s := stops) (by assumption) (by assumption) (by assumption) (by assumption) (by assumption) (by assumption); first | exact z.1 | exact z.2) | (have z := Ow.due_hi (kd := ((Ow.Tf_Kind.signed kd_w_2))) (n := number) (s := stops) hkk (by assumption) (by omega) (by omega) (by assumption); first | exact z.1 | exact z.2)) _ _ (h18.trans (Ow.same_new h_p_11)) (Same.free h18 h_p_11) upd_same
          · refine ⟨_, rfl, ?_⟩
            refine ⟨_, rfl, ?_⟩
            refine ⟨_, _, rfl, rfl, ?_⟩
            refine ⟨_, rfl, ?_⟩
            refine Ow.ifd (fun h24 => ?_) (fun h24 => ?_)
            · refine ⟨_, rfl, ?_⟩
              refine ⟨_, rfl, ?_⟩
              refine ⟨_, rfl, rfl, (by walk_at "o2"), fun B_8 h_B_8 h0_B_8 => ?_⟩
              have z_B_8 : Ow.Sz 2202 B_8 := by rw [h_B_8]; exact Ow.Sz.pow (n := 2201) (by walk_at "o2")
              refine ⟨_, _, rfl, rfl, (by walk_at "o2"), fun r_8 h_r_8 h0_r_8 h1_r_8 => ?_⟩
              refine ⟨by show 2 ≤ sizeLine; decide, fun p_12 h_p_12 => ?_⟩
              exact kont r_8 ("stop") (by first | (have z := Ow.due_in (kd := ((Ow.Tf_Kind.signed kd_w_2))) (n := number) (s := stops) (by assumption) (by assumption) (by assumption) (by omega) (by omega); first | exact z.1 | exact z.2) | (have z := Ow.due_round (kd := ((Ow.Tf_Kind.signed kd_w_2))) (n := number) (s := stops) (by assumption) (by assumption) (by assumption) (by omega) (by assumption); first | exact z.1 | exact z.2) | (have z := Ow.due_lo (kd := ((Ow.Tf_Kind.signed kd_w_2))) (n := number) (s := stops) (by assumption) (by assumption) (by assumption) (by assumption) (by assumption) (by assumption); first | exact z.1 | exact z.2) | (have z := Ow.due_hi (kd := ((Ow.Tf_Kind.signed kd_w_2))) (n := number) (s := stops) hkk (by assumption) (by omega) (by omega) (by assumption); first | exact z.1 | exact z.2)) (by first | (have z := Ow.due_in (kd := ((Ow.Tf_Kind.signed kd_w_2))) (n := number) (s := stops) (by assumption) (by assumption) (by assumption) (by omega) (by omega); first | exact z.1 | exact z.2) | (have z := Ow.due_round (kd := ((Ow.Tf_Kind.signed kd_w_2))) (n := number) (s := stops) (by assumption) (by assumption) (by assumption) (by omega) (by assumption); first | exact z.1 | exact z.2) | (have z := Ow.due_lo (kd := ((Ow.Tf_Kind.signed kd_w_2))) (n := number) (s := stops) (by assumption) (by assumption) (by assumption) (by assumption) (by assumption) (by assumption); first | exact z.1 | exact z.2) | (have z := Ow.due_hi (kd := ((Ow.Tf_Kind.signed kd_w_2))) (n := number) (s := stops) hkk (by assumption) (by omega) (by omega) (by assumption); first | exact z.1 | exact z.2)) _ _ (h18.trans (Ow.same_new h_p_12)) (Same.free h18 h_p_12) upd_same
            · refine ⟨_, rfl, ?_⟩
              refine ⟨by show 2 ≤ sizeLine; decide, fun p_13 h_p_13 => ?_⟩
              exact kont hi_2 ("stop") (by first | (have z := Ow.due_in (kd := ((Ow.Tf_Kind.signed kd_w_2))) (n := number) (s := stops) (by assumption) (by assumption) (by assumption) (by omega) (by omega); first | exact z.1 | exact z.2) | (have z := Ow.due_round (kd := ((Ow.Tf_Kind.signed kd_w_2))) (n := number) (s := stops) (by assumption) (by assumption) (by assumption) (by omega) (by assumption); first | exact z.1 | exact z.2) | (have z := Ow.due_lo (kd := ((Ow.Tf_Kind.signed kd_w_2))) (n := number) (s := stops) (by assumption) (by assumption) (by assumption) (by assumption) (by assumption) (by assumption); first | exact z.1 | exact z.2) | (have z := Ow.due_hi (kd := ((Ow.Tf_Kind.signed kd_w_2))) (n := number) (s := stops) hkk (by assumption) (by omega) (by omega) (by assumption); first | exact z.1 | exact z.2)) (by first | (have z := Ow.due_in (kd := ((Ow.Tf_Kind.signed kd_w_2))) (n := number) (s := stops) (by assumption) (by assumption) (by assumption) (by omega) (by omega); first | exact z.1 | exact z.2) | (have z := Ow.due_round (kd := ((Ow.Tf_Kind.signed kd_w_2))) (n := number) (s := stops) (by assumption) (by assumption) (by assumption) (by omega) (by assumption); first | exact z.1 | exact z.2) | (have z := Ow.due_lo (kd := ((Ow.Tf_Kind.signed kd_w_2))) (n := number) (s := stops) (by assumption) (by assumption) (by assumption) (by assumption) (by assumption) (by assumption); first | exact z.1 | exact z.2) | (have z := Ow.due_hi (kd := ((Ow.Tf_Kind.signed kd_w_2))) (n := number) (s := stops) hkk (by assumption) (by omega) (by omega) (by assumption); first | exact z.1 | exact z.2)) _ _ (h18.trans (Ow.same_new h_p_13)) (Same.free h18 h_p_13) upd_same
      · refine ⟨_, rfl, ?_⟩
        refine iteF ?_
        refine ⟨_, rfl, ?_⟩
        refine ⟨_, rfl, ?_⟩
        refine Ow.ifnb (fun h25 => ?_) (fun h25 => ?_)
        · refine ⟨_, rfl, ?_⟩
          refine ⟨_, rfl, ?_⟩
          refine ⟨_, rfl, rfl, (by walk_at "o2"), fun B_9 h_B_9 h0_B_9 => ?_⟩
          have z_B_9 : Ow.Sz 2202 B_9 := by rw [h_B_9]; exact Ow.Sz.pow (n := 2201) (by walk_at "o2")
          refine ⟨_, _, rfl, rfl, (by walk_at "o2"), fun r_9 h_r_9 h0_r_9 h1_r_9 => ?_⟩
          refine ⟨by show 2 ≤ sizeLine; decide, fun p_14 h_p_14 => ?_⟩
          exact kont r_9 ("round") (by first | (have z := Ow.due_in (kd := ((Ow.Tf_Kind.signed kd_w_2))) (n := number) (s := stops) (by assumption) (by assumption) (by assumption) (by omega) (by omega); first | exact z.1 | exact z.2) | (have z := Ow.due_round (kd := ((Ow.Tf_Kind.signed kd_w_2))) (n := number) (s := stops) (by assumption) (by assumption) (by assumption) (by omega) (by assumption); first | exact z.1 | exact z.2) | (have z := Ow.due_lo (kd := ((Ow.Tf_Kind.signed kd_w_2))) (n := number) (s := stops) (by assumption) (by assumption) (by assumption) (by assumption) (by assumption) (by assumption); first | exact z.1 | exact z.2) | (have z := Ow.due_hi (kd := ((Ow.Tf_Kind.signed kd_w_2))) (n := number) (s := stops) hkk (by assumption) (by omega) (by omega) (by assumption); first | exact z.1 | exact z.2)) (by first | (have z := Ow.due_in (kd := ((Ow.Tf_Kind.signed kd_w_2))) (n := number) (s := stops) (by assumption) (by assumption) (by assumption) (by omega) (by omega); first | exact z.1 | exact z.2) | (have z := Ow.due_round (kd := ((Ow.Tf_Kind.signed kd_w_2))) (n := number) (s := stops) (by assumption) (by assumption) (by assumption) (by omega) (by assumption); first | exact z.1 | exact z.2) | (have z := Ow.due_lo (kd := ((Ow.Tf_Kind.signed kd_w_2))) (n := number) (s := stops) (by assumption) (by assumption) (by assumption) (by assumption) (by assumption) (by assumption); first | exact z.1 | exact z.2) | (have z := Ow.due_hi (kd := ((Ow.Tf_Kind.signed kd_w_2))) (n := number) (s := stops) hkk (by assumption) (by omega) (by omega) (by assumption); first | exact z.1 | exact z.2)) _ _ (h18.trans (Ow.same_new h_p_14)) (Same.free h18 h_p_14) upd_same
        · refine ⟨_, rfl, ?_⟩
          refine ⟨_, rfl, ?_⟩
          refine ⟨_, _, rfl, rfl, ?_⟩
          refine ⟨_, rfl, ?_⟩
          refine Ow.ifd (fun h26 => ?_) (fun h26 => ?_)
          · refine ⟨_, rfl, ?_⟩
            refine ⟨_, rfl, ?_⟩
            refine ⟨_, rfl, rfl, (by walk_at "o2"), fun B_10 h_B_10 h0_B_10 => ?_⟩
            have z_B_10 : Ow.Sz 2202 B_10 := by rw [h_B_10]; exact Ow.Sz.pow (n := 2201) (by walk_at "o2")
            refine ⟨_, _, rfl, rfl, (by walk_at "o2"), fun r_10 h_r_10 h0_r_10 h1_r_10 => ?_⟩
            refine ⟨by show 2 ≤ sizeLine; decide, fun p_15 h_p_15 => ?_⟩
            exact kont r_10 ("stop") (by first | (have z := Ow.due_in (kd := ((Ow.Tf_Kind.signed kd_w_2))) (n := number) (s := stops) (by assumption) (by assumption) (by assumption) (by omega) (by omega); first | exact z.1 | exact z.2) | (have z := Ow.due_round (kd := ((Ow.Tf_Kind.signed kd_w_2))) (n := number) (s := stops) (by assumption) (by assumption) (by assumption) (by omega) (by assumption); first | exact z.1 | exact z.2) | (have z := Ow.due_lo (kd := ((Ow.Tf_Kind.signed kd_w_2))) (n := number) (s := stops) (by assumption) (by assumption) (by assumption) (by assumption) (by assumption) (by assumption); first | exact z.1 | exact z.2) | (have z := Ow.due_hi (kd := ((Ow.Tf_Kind.signed kd_w_2))) (n := number) (s := stops) hkk (by assumption) (by omega) (by omega) (by assumption); first | exact z.1 | exact z.2)) (by first | (have z := Ow.due_in (kd := ((Ow.Tf_Kind.signed kd_w_2))) (n := number) (s := stops) (by assumption) (by assumption) (by assumption) (by omega) (by omega); first | exact z.1 | exact z.2) | (have z := Ow.due_round (kd := ((Ow.Tf_Kind.signed kd_w_2))) (n := number) (s := stops) (by assumption) (by assumption) (by assumption) (by omega) (by assumption); first | exact z.1 | exact z.2) | (have z := Ow.due_lo (kd := ((Ow.Tf_Kind.signed kd_w_2))) (n := number) (s := stops) (by assumption) (by assumption) (by assumption) (by assumption) (by assumption) (by assumption); first | exact z.1 | exact z.2) | (have z := Ow.due_hi (kd := ((Ow.Tf_Kind.signed kd_w_2))) (n := number) (s := stops) hkk (by assumption) (by omega) (by omega) (by assumption); first | exact z.1 | exact z.2)) _ _ (h18.trans (Ow.same_new h_p_15)) (Same.free h18 h_p_15) upd_same
          · refine ⟨_, rfl, ?_⟩
            refine ⟨by show 2 ≤ sizeLine; decide, fun p_16 h_p_16 => ?_⟩
            exact kont hi_2 ("stop") (by first | (have z := Ow.due_in (kd := ((Ow.Tf_Kind.signed kd_w_2))) (n := number) (s := stops) (by assumption) (by assumption) (by assumption) (by omega) (by omega); first | exact z.1 | exact z.2) | (have z := Ow.due_round (kd := ((Ow.Tf_Kind.signed kd_w_2))) (n := number) (s := stops) (by assumption) (by assumption) (by assumption) (by omega) (by assumption); first | exact z.1 | exact z.2) | (have z := Ow.due_lo (kd := ((Ow.Tf_Kind.signed kd_w_2))) (n := number) (s := stops) (by assumption) (by assumption) (by assumption) (by assumption) (by assumption) (by assumption); first | exact z.1 | exact z.2) | (have z := Ow.due_hi (kd := ((Ow.Tf_Kind.signed kd_w_2))) (n := number) (s := stops) hkk (by assumption) (by omega) (by omega) (by assumption); first | exact z.1 | exact z.2)) (by first | (have z := Ow.due_in (kd := ((Ow.Tf_Kind.signed kd_w_2))) (n := number) (s := stops) (by assumption) (by assumption) (by assumption) (by omega) (by omega); first | exact z.1 | exact z.2) | (have z := Ow.due_round (kd := ((Ow.Tf_Kind.signed kd_w_2))) (n := number) (s := stops) (by assumption) (by assumption) (by assumption) (by omega) (by assumption); first | exact z.1 | exact z.2) | (have z := Ow.due_lo (kd := ((Ow.Tf_Kind.signed kd_w_2))) (n := number) (s := stops) (by assumption) (by assumption) (by assumption) (by assumption) (by assumption) (by assumption); first | exact z.1 | exact z.2) | (have z := Ow.due_hi (kd := ((Ow.Tf_Kind.signed kd_w_2))) (n := number) (s := stops) hkk (by assumption) (by omega) (by omega) (by assumption); first | exact z.1 | exact z.2)) _ _ (h18.trans (Ow.same_new h_p_16)) (Same.free h18 h_p_16) upd_same
    · have hkk := c2
      have hw0 : width = Ow.kw ((Ow.Tf_Kind.point kd_w_3 kd_p)) := c1
      simp only [Ow.ks] at c0
      simp only [Ow.kw] at c1
      have hk := Ow.krng c2
      have hl := Ow.kle c2
      have hg := Ow.kge c2
      simp only [Ow.KOk] at c2
      simp only [Ow.kw] at hk
      simp only [Ow.kle1] at hl
      simp only [Ow.kge1] at hg
      refine ⟨_, rfl, ?_⟩
      refine ⟨_, rfl, ?_⟩
      refine ⟨_, _, ((((Ow.Tf_Kind.point kd_w_3 kd_p)))), rfl, (by walk_at "o2"), (by walk_at "o2"), (by walk_at "o2"), fun lo_3 hi_3 h27 h28 h29 h30 p_17 Hn_3 h31 h32 h33 => ?_⟩
      refine ⟨_, _, rfl, (SqL.of h33), rfl, ?_⟩
      refine ⟨_, _, rfl, ?_⟩
      refine ⟨_, _, rfl, ?_⟩
      refine ⟨rfl, ?_⟩
      refine ⟨_, rfl, ?_⟩
      refine ⟨_, rfl, ?_⟩
      refine ⟨_, _, rfl, rfl, ?_⟩
      refine ⟨_, rfl, ?_⟩
      refine Ow.ifd (fun h34 => ?_) (fun h34 => ?_)
      · refine ⟨_, rfl, ?_⟩
        refine ⟨_, _, rfl, rfl, ?_⟩
        refine ⟨_, rfl, ?_⟩
        refine Ow.ifd (fun h35 => ?_) (fun h35 => ?_)
        · refine ⟨_, rfl, ?_⟩
          refine ⟨_, rfl, ?_⟩
          refine ⟨_, rfl, rfl, (by walk_at "o2"), fun B_11 h_B_11 h0_B_11 => ?_⟩
          have z_B_11 : Ow.Sz 2202 B_11 := by rw [h_B_11]; exact Ow.Sz.pow (n := 2201) (by walk_at "o2")
          refine ⟨_, _, rfl, rfl, (by walk_at "o2"), fun r_11 h_r_11 h0_r_11 h1_r_11 => ?_⟩
          refine ⟨by show 2 ≤ sizeLine; decide, fun p_18 h_p_18 => ?_⟩
          exact kont r_11 ("") (by first | (have z := Ow.due_in (kd := ((Ow.Tf_Kind.point kd_w_3 kd_p))) (n := number) (s := stops) (by assumption) (by assumption) (by assumption) (by omega) (by omega); first | exact z.1 | exact z.2) | (have z := Ow.due_round (kd := ((Ow.Tf_Kind.point kd_w_3 kd_p))) (n := number) (s := stops) (by assumption) (by assumption) (by assumption) (by omega) (by assumption); first | exact z.1 | exact z.2) | (have z := Ow.due_lo (kd := ((Ow.Tf_Kind.point kd_w_3 kd_p))) (n := number) (s := stops) (by assumption) (by assumption) (by assumption) (by assumption) (by assumption) (by assumption); first | exact z.1 | exact z.2) | (have z := Ow.due_hi (kd := ((Ow.Tf_Kind.point kd_w_3 kd_p))) (n := number) (s := stops) hkk (by assumption) (by omega) (by omega) (by assumption); first | exact z.1 | exact z.2)) (by first | (have z := Ow.due_in (kd := ((Ow.Tf_Kind.point kd_w_3 kd_p))) (n := number) (s := stops) (by assumption) (by assumption) (by assumption) (by omega) (by omega); first | exact z.1 | exact z.2) | (have z := Ow.due_round (kd := ((Ow.Tf_Kind.point kd_w_3 kd_p))) (n := number) (s := stops) (by assumption) (by assumption) (by assumption) (by omega) (by assumption); first | exact z.1 | exact z.2) | (have z := Ow.due_lo (kd := ((Ow.Tf_Kind.point kd_w_3 kd_p))) (n := number) (s := stops) (by assumption) (by assumption) (by assumption) (by assumption) (by assumption) (by assumption); first | exact z.1 | exact z.2) | (have z := Ow.due_hi (kd := ((Ow.Tf_Kind.point kd_w_3 kd_p))) (n := number) (s := stops) hkk (by assumption) (by omega) (by omega) (by assumption); first | exact z.1 | exact z.2)) _ _ (h31.trans (Ow.same_new h_p_18)) (Same.free h31 h_p_18) upd_same
        · refine ⟨_, rfl, ?_⟩
          refine ⟨_, rfl, ?_⟩
          refine Ow.ifnb (fun h36 => ?_) (fun h36 => ?_)
          · refine ⟨_, rfl, ?_⟩
            refine ⟨_, rfl, ?_⟩
            refine ⟨_, rfl, rfl, (by walk_at "o2"), fun B_12 h_B_12 h0_B_12 => ?_⟩
            have z_B_12 : Ow.Sz 2202 B_12 := by rw [h_B_12]; exact Ow.Sz.pow (n := 2201) (by walk_at "o2")
            refine ⟨_, _, rfl, rfl, (by walk_at "o2"), fun r_12 h_r_12 h0_r_12 h1_r_12 => ?_⟩
            refine ⟨by show 2 ≤ sizeLine; decide, fun p_19 h_p_19 => ?_⟩
            exact kont r_12 ("round") (by first | (have z := Ow.due_in (kd := ((Ow.Tf_Kind.point kd_w_3 kd_p))) (n := number) (s := stops) (by assumption) (by assumption) (by assumption) (by omega) (by omega); first | exact z.1 | exact z.2) | (have z := Ow.due_round (kd := ((Ow.Tf_Kind.point kd_w_3 kd_p))) (n := number) (s := stops) (by assumption) (by assumption) (by assumption) (by omega) (by assumption); first | exact z.1 | exact z.2) | (have z := Ow.due_lo (kd := ((Ow.Tf_Kind.point kd_w_3 kd_p))) (n := number) (s := stops) (by assumption) (by assumption) (by assumption) (by assumption) (by assumption) (by assumption); first | exact z.1 | exact z.2) | (have z := Ow.due_hi (kd := ((Ow.Tf_Kind.point kd_w_3 kd_p))) (n := number) (s := stops) hkk (by assumption) (by omega) (by omega) (by assumption); first | exact z.1 | exact z.2)) (by first | (have z := Ow.due_in (kd := ((Ow.Tf_Kind.point kd_w_3 kd_p))) (n := number) (s := stops) (by assumption) (by assumption) (by assumption) (by omega) (by omega); first | exact z.1 | exact z.2) | (have z := Ow.due_round (kd := ((Ow.Tf_Kind.point kd_w_3 kd_p))) (n := number) (s := stops) (by assumption) (by assumption) (by assumption) (by omega) (by assumption); first | exact z.1 | exact z.2) | (have z := Ow.due_lo (kd := ((Ow.Tf_Kind.point kd_w_3 kd_p))) (n := number) (s := stops) (by assumption) (by assumption) (by assumption) (by assumption) (by assumption) (by assumption); first | exact z.1 | exact z.2) | (have z := Ow.due_hi (kd := ((Ow.Tf_Kind.point kd_w_3 kd_p))) (n := number) (s := stops) hkk (by assumption) (by omega) (by omega) (by assumption); first | exact z.1 | exact z.2)) _ _ (h31.trans (Ow.same_new h_p_19)) (Same.free h31 h_p_19) upd_same
          · refine ⟨_, rfl, ?_⟩
            refine ⟨_, rfl, ?_⟩
            refine ⟨_, _, rfl, rfl, ?_⟩
            refine ⟨_, rfl, ?_⟩
            refine Ow.ifd (fun h37 => ?_) (fun h37 => ?_)
            · refine ⟨_, rfl, ?_⟩
              refine ⟨_, rfl, ?_⟩
              refine ⟨_, rfl, rfl, (by walk_at "o2"), fun B_13 h_B_13 h0_B_13 => ?_⟩
              have z_B_13 : Ow.Sz 2202 B_13 := by rw [h_B_13]; exact Ow.Sz.pow (n := 2201) (by walk_at "o2")
              refine ⟨_, _, rfl, rfl, (by walk_at "o2"), fun r_13 h_r_13 h0_r_13 h1_r_13 => ?_⟩
              refine ⟨by show 2 ≤ sizeLine; decide, fun p_20 h_p_20 => ?_⟩
              exact kont r_13 ("stop") (by first | (have z := Ow.due_in (kd := ((Ow.Tf_Kind.point kd_w_3 kd_p))) (n := number) (s := stops) (by assumption) (by assumption) (by assumption) (by omega) (by omega); first | exact z.1 | exact z.2) | (have z := Ow.due_round (kd := ((Ow.Tf_Kind.point kd_w_3 kd_p))) (n := number) (s := stops) (by assumption) (by assumption) (by assumption) (by omega) (by assumption); first | exact z.1 | exact z.2) | (have z := Ow.due_lo (kd := ((Ow.Tf_Kind.point kd_w_3 kd_p))) (n := number) (s := stops) (by assumption) (by assumption) (by assumption) (by assumption) (by assumption) (by assumption); first | exact z.1 | exact z.2) | (have z := Ow.due_hi (kd := ((Ow.Tf_Kind.point kd_w_3 kd_p))) (n := number) (s := stops) hkk (by assumption) (by omega) (by omega) (by assumption); first | exact z.1 | exact z.2)) (by first | (have z := Ow.due_in (kd := ((Ow.Tf_Kind.point kd_w_3 kd_p))) (n := number) (s := stops) (by assumption) (by assumption) (by assumption) (by omega) (by omega); first | exact z.1 | exact z.2) | (have z := Ow.due_round (kd := ((Ow.Tf_Kind.point kd_w_3 kd_p))) (n := number) (s := stops) (by assumption) (by assumption) (by assumption) (by omega) (by assumption); first | exact z.1 | exact z.2) | (have z := Ow.due_lo (kd := ((Ow.Tf_Kind.point kd_w_3 kd_p))) (n := number) (s := stops) (by assumption) (by assumption) (by assumption) (by assumption) (by assumption) (by assumption); first | exact z.1 | exact z.2) | (have z := Ow.due_hi (kd := ((Ow.Tf_Kind.point kd_w_3 kd_p))) (n := number) (s := stops) hkk (by assumption) (by omega) (by omega) (by assumption); first | exact z.1 | exact z.2)) _ _ (h31.trans (Ow.same_new h_p_20)) (Same.free h31 h_p_20) upd_same
            · refine ⟨_, rfl, ?_⟩
              refine ⟨by show 2 ≤ sizeLine; decide, fun p_21 h_p_21 => ?_⟩
              exact kont hi_3 ("stop") (by first | (have z := Ow.due_in (kd := ((Ow.Tf_Kind.point kd_w_3 kd_p))) (n := number) (s := stops) (by assumption) (by assumption) (by assumption) (by omega) (by omega); first | exact z.1 | exact z.2) | (have z := Ow.due_round (kd := ((Ow.Tf_Kind.point kd_w_3 kd_p))) (n := number) (s := stops) (by assumption) (by assumption) (by assumption) (by omega) (by assumption); first | exact z.1 | exact z.2) | (have z := Ow.due_lo (kd := ((Ow.Tf_Kind.point kd_w_3 kd_p))) (n := number) (s := stops) (by assumption) (by assumption) (by assumption) (by assumption) (by assumption) (by assumption); first | exact z.1 | exact z.2) | (have z := Ow.due_hi (kd := ((Ow.Tf_Kind.point kd_w_3 kd_p))) (n := number) (s := stops) hkk (by assumption) (by omega) (by omega) (by assumption); first | exact z.1 | exact z.2)) (by first | (have z := Ow.due_in (kd := ((Ow.Tf_Kind.point kd_w_3 kd_p))) (n := number) (s := stops) (by assumption) (by assumption) (by assumption) (by omega) (by omega); first | exact z.1 | exact z.2) | (have z := Ow.due_round (kd := ((Ow.Tf_Kind.point kd_w_3 kd_p))) (n := number) (s := stops) (by assumption) (by assumption) (by assumption) (by omega) (by assumption); first | exact z.1 | exact z.2) | (have z := Ow.due_lo (kd := ((Ow.Tf_Kind.point kd_w_3 kd_p))) (n := number) (s := stops) (by assumption) (by assumption) (by assumption) (by assumption) (by assumption) (by assumption); first | exact z.1 | exact z.2) | (have z := Ow.due_hi (kd := ((Ow.Tf_Kind.point kd_w_3 kd_p))) (n := number) (s := stops) hkk (by assumption) (by omega) (by omega) (by assumption); first | exact z.1 | exact z.2)) _ _ (h31.trans (Ow.same_new h_p_21)) (Same.free h31 h_p_21) upd_same
      · refine ⟨_, rfl, ?_⟩
        refine iteF ?_
        refine ⟨_, rfl, ?_⟩
        refine ⟨_, rfl, ?_⟩
        refine Ow.ifnb (fun h38 => ?_) (fun h38 => ?_)
        · refine ⟨_, rfl, ?_⟩
          refine ⟨_, rfl, ?_⟩
          refine ⟨_, rfl, rfl, (by walk_at "o2"), fun B_14 h_B_14 h0_B_14 => ?_⟩
          have z_B_14 : Ow.Sz 2202 B_14 := by rw [h_B_14]; exact Ow.Sz.pow (n := 2201) (by walk_at "o2")
          refine ⟨_, _, rfl, rfl, (by walk_at "o2"), fun r_14 h_r_14 h0_r_14 h1_r_14 => ?_⟩
          refine ⟨by show 2 ≤ sizeLine; decide, fun p_22 h_p_22 => ?_⟩
          exact kont r_14 ("round") (by first | (have z := Ow.due_in (kd := ((Ow.Tf_Kind.point kd_w_3 kd_p))) (n := number) (s := stops) (by assumption) (by assumption) (by assumption) (by omega) (by omega); first | exact z.1 | exact z.2) | (have z := Ow.due_round (kd := ((Ow.Tf_Kind.point kd_w_3 kd_p))) (n := number) (s := stops) (by assumption) (by assumption) (by assumption) (by omega) (by assumption); first | exact z.1 | exact z.2) | (have z := Ow.due_lo (kd := ((Ow.Tf_Kind.point kd_w_3 kd_p))) (n := number) (s := stops) (by assumption) (by assumption) (by assumption) (by assumption) (by assumption) (by assumption); first | exact z.1 | exact z.2) | (have z := Ow.due_hi (kd := ((Ow.Tf_Kind.point kd_w_3 kd_p))) (n := number) (s := stops) hkk (by assumption) (by omega) (by omega) (by assumption); first | exact z.1 | exact z.2)) (by first | (have z := Ow.due_in (kd := ((Ow.Tf_Kind.point kd_w_3 kd_p))) (n := number) (s := stops) (by assumption) (by assumption) (by assumption) (by omega) (by omega); first | exact z.1 | exact z.2) | (have z := Ow.due_round (kd := ((Ow.Tf_Kind.point kd_w_3 kd_p))) (n := number) (s := stops) (by assumption) (by assumption) (by assumption) (by omega) (by assumption); first | exact z.1 | exact z.2) | (have z := Ow.due_lo (kd := ((Ow.Tf_Kind.point kd_w_3 kd_p))) (n := number) (s := stops) (by assumption) (by assumption) (by assumption) (by assumption) (by assumption) (by assumption); first | exact z.1 | exact z.2) | (have z := Ow.due_hi (kd := ((Ow.Tf_Kind.point kd_w_3 kd_p))) (n := number) (s := stops) hkk (by assumption) (by omega) (by omega) (by assumption); first | exact z.1 | exact z.2)) _ _ (h31.trans (Ow.same_new h_p_22)) (Same.free h31 h_p_22) upd_same
        · refine ⟨_, rfl, ?_⟩
          refine ⟨_, rfl, ?_⟩
          refine ⟨_, _, rfl, rfl, ?_⟩
          refine ⟨_, rfl, ?_⟩
          refine Ow.ifd (fun h39 => ?_) (fun h39 => ?_)
          · refine ⟨_, rfl, ?_⟩
            refine ⟨_, rfl, ?_⟩
            refine ⟨_, rfl, rfl, (by walk_at "o2"), fun B_15 h_B_15 h0_B_15 => ?_⟩
            have z_B_15 : Ow.Sz 2202 B_15 := by rw [h_B_15]; exact Ow.Sz.pow (n := 2201) (by walk_at "o2")
            refine ⟨_, _, rfl, rfl, (by walk_at "o2"), fun r_15 h_r_15 h0_r_15 h1_r_15 => ?_⟩
            refine ⟨by show 2 ≤ sizeLine; decide, fun p_23 h_p_23 => ?_⟩
            exact kont r_15 ("stop") (by first | (have z := Ow.due_in (kd := ((Ow.Tf_Kind.point kd_w_3 kd_p))) (n := number) (s := stops) (by assumption) (by assumption) (by assumption) (by omega) (by omega); first | exact z.1 | exact z.2) | (have z := Ow.due_round (kd := ((Ow.Tf_Kind.point kd_w_3 kd_p))) (n := number) (s := stops) (by assumption) (by assumption) (by assumption) (by omega) (by assumption); first | exact z.1 | exact z.2) | (have z := Ow.due_lo (kd := ((Ow.Tf_Kind.point kd_w_3 kd_p))) (n := number) (s := stops) (by assumption) (by assumption) (by assumption) (by assumption) (by assumption) (by assumption); first | exact z.1 | exact z.2) | (have z := Ow.due_hi (kd := ((Ow.Tf_Kind.point kd_w_3 kd_p))) (n := number) (s := stops) hkk (by assumption) (by omega) (by omega) (by assumption); first | exact z.1 | exact z.2)) (by first | (have z := Ow.due_in (kd := ((Ow.Tf_Kind.point kd_w_3 kd_p))) (n := number) (s := stops) (by assumption) (by assumption) (by assumption) (by omega) (by omega); first | exact z.1 | exact z.2) | (have z := Ow.due_round (kd := ((Ow.Tf_Kind.point kd_w_3 kd_p))) (n := number) (s := stops) (by assumption) (by assumption) (by assumption) (by omega) (by assumption); first | exact z.1 | exact z.2) | (have z := Ow.due_lo (kd := ((Ow.Tf_Kind.point kd_w_3 kd_p))) (n := number) (s := stops) (by assumption) (by assumption) (by assumption) (by assumption) (by assumption) (by assumption); first | exact z.1 | exact z.2) | (have z := Ow.due_hi (kd := ((Ow.Tf_Kind.point kd_w_3 kd_p))) (n := number) (s := stops) hkk (by assumption) (by omega) (by omega) (by assumption); first | exact z.1 | exact z.2)) _ _ (h31.trans (Ow.same_new h_p_23)) (Same.free h31 h_p_23) upd_same
          · refine ⟨_, rfl, ?_⟩
            refine ⟨by show 2 ≤ sizeLine; decide, fun p_24 h_p_24 => ?_⟩
            exact kont hi_3 ("stop") (by first | (have z := Ow.due_in (kd := ((Ow.Tf_Kind.point kd_w_3 kd_p))) (n := number) (s := stops) (by assumption) (by assumption) (by assumption) (by omega) (by omega); first | exact z.1 | exact z.2) | (have z := Ow.due_round (kd := ((Ow.Tf_Kind.point kd_w_3 kd_p))) (n := number) (s := stops) (by assumption) (by assumption) (by assumption) (by omega) (by assumption); first | exact z.1 | exact z.2) | (have z := Ow.due_lo (kd := ((Ow.Tf_Kind.point kd_w_3 kd_p))) (n := number) (s := stops) (by assumption) (by assumption) (by assumption) (by assumption) (by assumption) (by assumption); first | exact z.1 | exact z.2) | (have z := Ow.due_hi (kd := ((Ow.Tf_Kind.point kd_w_3 kd_p))) (n := number) (s := stops) hkk (by assumption) (by omega) (by omega) (by assumption); first | exact z.1 | exact z.2)) (by first | (have z := Ow.due_in (kd := ((Ow.Tf_Kind.point kd_w_3 kd_p))) (n := number) (s := stops) (by assumption) (by assumption) (by assumption) (by omega) (by omega); first | exact z.1 | exact z.2) | (have z := Ow.due_round (kd := ((Ow.Tf_Kind.point kd_w_3 kd_p))) (n := number) (s := stops) (by assumption) (by assumption) (by assumption) (by omega) (by assumption); first | exact z.1 | exact z.2) | (have z := Ow.due_lo (kd := ((Ow.Tf_Kind.point kd_w_3 kd_p))) (n := number) (s := stops) (by assumption) (by assumption) (by assumption) (by assumption) (by assumption) (by assumption); first | exact z.1 | exact z.2) | (have z := Ow.due_hi (kd := ((Ow.Tf_Kind.point kd_w_3 kd_p))) (n := number) (s := stops) hkk (by assumption) (by omega) (by omega) (by assumption); first | exact z.1 | exact z.2)) _ _ (h31.trans (Ow.same_new h_p_24)) (Same.free h31 h_p_24) upd_same
theorem ok_l_one (T : Tx K mg) : FnOk P w K mg base CX0 8 T.d_l_one.f T.d_l_one.fd ["_law_cell_here", "_law_ways"] (sp_l_one T) := by
  refine T.d_l_one.F.ok sc_l_one (fun vs H Q E h => ?_) (fun cdv A outer s H vs Q E hr h => ?_)
  · obtain ⟨cell, ways, o0, o1, o2, o3, dx_o0, dx_o1, dx_o2, dx_o3, rfl, _⟩ := h
    rfl
  · obtain ⟨cell, ways, o0, o1, o2, o3, dx_o0, dx_o1, dx_o2, dx_o3, rfl, c0, c1, c2, c3, c4, kont⟩ := h
    refine ⟨_, (pss_cons (ps_set (i := 2) sc_l_one.nd rfl (Or.inl rfl) (pe_call (Ow.ok_l_begun T) (hr.mono (by decide : 1 ≤ 7)) (by rfl) T.d_l_begun.m T.d_l_begun.F.kp T.d_l_begun.b .nil pass0 (pa_cons (pv 0) pa_nil)))
        (pss_cons (ps_set (i := 3) sc_l_one.nd rfl (Or.inl rfl) (pe_call (Ow.ok_l_draw T) (hr.mono (by decide : 1 ≤ 7)) (by rfl) T.d_l_draw.m T.d_l_draw.F.kp T.d_l_draw.b .nil pass0 (pa_cons (pv 2) (pa_cons pe_int pa_nil))))
        (pss_cons (ps_set (i := 4) sc_l_one.nd rfl (Or.inl rfl) (Ow.pe_nmi (pe_op op_add pe_int (pe_call (Ow.ok_l_draw T) (hr.mono (by decide : 1 ≤ 7)) (by rfl) T.d_l_draw.m T.d_l_draw.F.kp T.d_l_draw.b .nil pass0 (pa_cons (pv 2) (pa_cons pe_int pa_nil))))))
        (pss_cons (ps_set (i := 5) sc_l_one.nd rfl (Or.inl rfl) pe_int)
        (pss_cons (ps_if (pt_cmpR op_eq (pv 3) pe_int (nomark _)) (pss_one (ps_set (i := 5) sc_l_one.nd rfl (Or.inl rfl) (Ow.pe_nmi (pe_op op_add pe_int (pe_call (Ow.ok_l_draw T) (hr.mono (by decide : 1 ≤ 7)) (by rfl) T.d_l_draw.m T.d_l_draw.F.kp T.d_l_draw.b .nil pass0 (pa_cons (pv 2) (pa_cons (pe_op op_sub (pv 4) pe_int) pa_nil))))))) pss_nil)
        (pss_cons (ps_set (i := 6) sc_l_one.nd rfl (Or.inl rfl) (Ow.pe_nmi (pe_callB call_abs (by rfl) T.z_abs (by decide +kernel) (pa_cons (pe_call (Ow.ok_l_number T) (hr.mono (by decide : 2 ≤ 7)) (by rfl) T.d_l_number.m T.d_l_number.F.kp T.d_l_number.b .nil pass0 (pa_cons (pv 2) pa_nil)) pa_nil))))
        (pss_cons (ps_if (pt_cmpR op_eq (pv 6) pe_int (nomark _)) (pss_one (ps_set (i := 6) sc_l_one.nd rfl (Or.inl rfl) (Ow.pe_nmi (pe_op op_add pe_int (pe_call (Ow.ok_l_draw T) (hr.mono (by decide : 1 ≤ 7)) (by rfl) T.d_l_draw.m T.d_l_draw.F.kp T.d_l_draw.b .nil pass0 (pa_cons (pv 2) (pa_cons pe_int pa_nil))))))) pss_nil)
        (pss_cons (ps_set (i := 7) sc_l_one.nd rfl (Or.inl rfl) (pe_call (Ow.ok_l_top T) (hr.mono (by decide : 3 ≤ 7)) (by rfl) T.d_l_top.m T.d_l_top.F.kp T.d_l_top.b .nil pass0 (pa_cons (pv 2) (pa_cons (pe_call (Ow.ok_l_ends T) (hr.mono (by decide : 1 ≤ 7)) (by rfl) T.d_l_ends.m T.d_l_ends.F.kp T.d_l_ends.b .nil pass0 (pa_cons (pv 3) (pa_cons (pv 4) pa_nil))) (pa_cons (pv 6) pa_nil)))))
        (pss_cons (ps_if (pt_cmpR op_eq (pe_call (Ow.ok_l_draw T) (hr.mono (by decide : 1 ≤ 7)) (by rfl) T.d_l_draw.m T.d_l_draw.F.kp T.d_l_draw.b .nil pass0 (pa_cons (pv 2) (pa_cons pe_int pa_nil))) pe_int (nomark _)) (pss_one (ps_set (i := 6) sc_l_one.nd rfl (Or.inl rfl) (pe_op Ow.op_shlN (pv 6) (pv 5)))) pss_nil)
        (pss_cons (ps_set (i := 8) sc_l_one.nd rfl (Or.inl rfl) (pe_call (Ow.ok_l_draw T) (hr.mono (by decide : 1 ≤ 7)) (by rfl) T.d_l_draw.m T.d_l_draw.F.kp T.d_l_draw.b .nil pass0 (pa_cons (pv 2) (pa_cons pe_int pa_nil))))
        (pss_cons (ps_set (i := 9) sc_l_one.nd rfl (Or.inl rfl) (pe_call (Ow.ok_l_kind T) (hr.mono (by decide : 7 ≤ 7)) (by rfl) T.d_l_kind.m T.d_l_kind.F.kp T.d_l_kind.b .nil pass0 (pa_cons (pv 3) (pa_cons (pv 4) (pa_cons (pv 5) pa_nil)))))
        (pss_cons (ps_for PassesOwn.never rfl (pi_range1 (by rfl) T.z_range (pa_cons pe_int pa_nil)) (pg_name (i := 10) sc_l_one.nd rfl (Or.inl rfl)) (pss_cons (ps_set (i := 11) sc_l_one.nd rfl (Or.inl rfl) (pe_op Ow.op_modN (pe_op op_add (pv 8) (pv 10)) pe_int))
        (pss_cons (ps_set (i := 12) sc_l_one.nd rfl (Or.inl rfl) (pe_ix ix_list (pe_lst (pa_cons pe_str (pa_cons pe_str (pa_cons pe_str (pa_cons pe_str pa_nil))))) (pv 11) (fun _ _ => rfl)))
        (pss_cons (ps_set (i := 13) sc_l_one.nd rfl (Or.inl rfl) (pe_cmpR op_lt (pe_op Ow.op_modN (pe_op op_add (pv 8) (pv 10)) pe_int) pe_int (nomark _)))
        (pss_cons (ps_set (i := 14) sc_l_one.nd rfl (Or.inl rfl) (pe_call (Ow.ok_l_whole_of T) (hr.mono (by decide : 2 ≤ 7)) (by rfl) T.d_l_whole_of.m T.d_l_whole_of.F.kp T.d_l_whole_of.b .nil pass0 (pa_cons (pv 12) (pa_cons (pe_op Ow.op_shlN (pv 7) (pv 5)) (pa_cons (pv 6) pa_nil)))))
        (pss_cons (ps_if (pt_not (pt_val (pe_call (Ow.ok_l_good T) (hr.mono (by decide : 2 ≤ 7)) (by rfl) T.d_l_good.m T.d_l_good.F.kp T.d_l_good.b .nil pass0 (pa_cons (pe_call (Ow.ok_into T) (hr.mono (by decide : 5 ≤ 7)) (by rfl) T.d_into.m T.d_into.F.kp T.d_into.b .nil pass0 (pa_cons (pv 9) (pa_cons (pe_ix ix_list (pv 1) (pv 11) (fun _ _ => rfl)) (pa_cons (pv 7) (pa_cons (pv 6) (pa_cons (pv 13) pa_nil)))))) (pa_cons (pe_call (Ow.ok_l_due T) (hr.mono (by decide : 2 ≤ 7)) (by rfl) T.d_l_due.m T.d_l_due.F.kp T.d_l_due.b .nil pass0 (pa_cons (pv 3) (pa_cons (pv 4) (pa_cons (pv 14) (pa_cons (pv 13) pa_nil))))) pa_nil))))) (pss_one (ps_ret pe_bl)) pss_nil)
        (pss_cons (ps_set (i := 15) sc_l_one.nd rfl (Or.inl rfl) (pe_call (Ow.ok_into T) (hr.mono (by decide : 5 ≤ 7)) (by rfl) T.d_into.m T.d_into.F.kp T.d_into.b .nil pass0 (pa_cons (pe_make T.mk_Plain (Ow.ok_Plain___init__ T) (hr.mono (by decide : 6 ≤ 7)) (by rfl) T.k_Plain.m T.d_Plain___init__.b .nil pass0 (pa_cons pe_int pa_nil)) (pa_cons (pe_ix ix_list (pv 1) (pv 11) (fun _ _ => rfl)) (pa_cons (pe_op Ow.op_mulN (pv 8) pe_int) (pa_cons pe_int (pa_cons (pv 13) pa_nil)))))))
        (pss_one (ps_if (pt_not (pt_val (pe_call (Ow.ok_l_good T) (hr.mono (by decide : 2 ≤ 7)) (by rfl) T.d_l_good.m T.d_l_good.F.kp T.d_l_good.b .nil pass0 (pa_cons (pv 15) (pa_cons (pe_call (Ow.ok_l_due T) (hr.mono (by decide : 2 ≤ 7)) (by rfl) T.d_l_due.m T.d_l_due.F.kp T.d_l_due.b .nil pass0 (pa_cons pe_int (pa_cons pe_int (pa_cons (pe_op Ow.op_mulN (pv 8) pe_int) (pa_cons (pv 13) pa_nil))))) pa_nil))))) (pss_one (ps_ret pe_bl)) pss_nil)))))))))
        (pss_one (ps_ret pe_bl)))))))))))))), ?_⟩
    refine ⟨_, rfl, ?_⟩
    refine ⟨_, rfl, fun a n p h_p => ?_⟩
    refine Ow.gnm ?_
    refine ⟨_, rfl, ?_⟩
    refine ⟨_, _, _, _, _, rfl, upd_same, (by walk_at "o2"), (by walk_at "o2"), fun l_sort a2 n2 h1 h2 => ?_⟩
    refine Ow.gnm ?_
    refine ⟨_, rfl, ?_⟩
    refine ⟨_, _, _, _, _, rfl, upd_same, (by walk_at "o2"), (by walk_at "o2"), fun t a2_2 n2_2 h3 h4 => ?_⟩
    refine ⟨_, _, rfl, rfl, ?_⟩
    refine ⟨_, rfl, fun l_width h_l_width => ?_⟩
    have z_l_width : Ow.Sz 6 l_width := by rw [h_l_width]; exact (Ow.Sz.add (Ow.Sz.mono (Ow.Sz.lit (n := 3) (i := 4) (by decide)) (by decide : 3 ≤ 5)) (Ow.Sz.rng (n := 5) h3 h4 (by decide)))
    refine Ow.gnm ?_
    refine Ow.setc (V.int (0)) ?_
    refine Ow.join (fun σ2 H2 => ∃ (pt : Int) (st : Addr) (a9 : Int) (n9 : Int) (c9 : Int) (v_6 : Option V) (v_7 : Option V) (v_8 : Option V) (v_9 : Option V) (v_10 : Option V) (v_11 : Option V) (v_12 : Option V) (v_13 : Option V) (v_14 : Option V) (v_15 : Option V), σ2 = [some (.int (cell)), some (.ref ways), some (.ref st), some (.int (l_sort)), some (.int (l_width)), some (.int (pt)), v_6, v_7, v_8, v_9, v_10, v_11, v_12, v_13, v_14, v_15] ∧ Same H H2 ∧ H2 st = some (.lst [.int (a9), .int (n9), .int (c9)]) ∧ H st = none ∧ (l_sort ≠ 2 → pt = 0) ∧ (l_sort = 2 → 1 ≤ pt ∧ pt < l_width) ∧ (Ow.Sz 8 pt) ∧ True) (fun N h5 => ?_) (fun σ2 H2 h6 => ?_)
    · refine ⟨_, rfl, ?_⟩
      refine ⟨rfl, ?_⟩
      refine ⟨_, rfl, ?_⟩
      refine Ow.ifeqi (fun h7 => ?_) (fun h7 => ?_)
      · refine ⟨_, rfl, ?_⟩
        refine ⟨_, rfl, ?_⟩
        refine ⟨_, _, rfl, rfl, ?_⟩
        refine ⟨_, _, _, _, _, rfl, upd_same, (by walk_at "o2"), (by walk_at "o2"), fun t_2 a2_3 n2_3 h8 h9 => ?_⟩
        refine ⟨_, _, rfl, rfl, ?_⟩
        refine ⟨_, rfl, fun l_point h_l_point => ?_⟩
        have z_l_point : Ow.Sz 8 l_point := by rw [h_l_point]; exact (Ow.Sz.add (Ow.Sz.mono (Ow.Sz.lit (n := 1) (i := 1) (by decide)) (by decide : 1 ≤ 7)) (Ow.Sz.md h8 h9 (Ow.Sz.sub z_l_width (Ow.Sz.mono (Ow.Sz.lit (n := 1) (i := 1) (by decide)) (by decide : 1 ≤ 6)))))
        exact h5 _ _ ⟨l_point, p, _, _, _, _, _, _, _, _, _, _, _, _, _, rfl, (Ow.same_mut (Ow.same_mut (Ow.same_mut (Ow.same_new h_p) h_p) h_p) h_p), upd_same, h_p, (by walk_at "o2"), (by walk_at "o2"), z_l_point, trivial⟩
      · exact h5 _ _ ⟨0, p, _, _, _, _, _, _, _, _, _, _, _, _, _, rfl, (Ow.same_mut (Ow.same_mut (Ow.same_new h_p) h_p) h_p), upd_same, h_p, (by walk_at "o2"), (by walk_at "o2"), (Ow.Sz.mono (Ow.Sz.lit (n := 1) (i := 0) (by decide)) (by decide : 1 ≤ 8)), trivial⟩
    · obtain ⟨pt, st, a9, n9, c9, _, _, _, _, _, _, _, _, _, _, rfl, h10, h11, h12, h13, h14, h15, _⟩ := h6
      refine ⟨_, rfl, ?_⟩
      refine ⟨_, _, _, _, rfl, h11, fun t_3 a2_4 n2_4 h16 Hn h17 h18 => ?_⟩
      refine ⟨_, rfl, ?_⟩
      refine ⟨_, rfl, fun ab h_ab => ?_⟩
      have hm_ab := Ow.abs_ite h_ab
      refine Ow.gnm ?_
      refine Ow.join (fun σ2 H2 => ∃ (bb : Int) (st : Addr) (a9 : Int) (n9 : Int) (c9 : Int) (v_7 : Option V) (v_8 : Option V) (v_9 : Option V) (v_10 : Option V) (v_11 : Option V) (v_12 : Option V) (v_13 : Option V) (v_14 : Option V) (v_15 : Option V), σ2 = [some (.int (cell)), some (.ref ways), some (.ref st), some (.int (l_sort)), some (.int (l_width)), some (.int (pt)), some (.int (bb)), v_7, v_8, v_9, v_10, v_11, v_12, v_13, v_14, v_15] ∧ Same H H2 ∧ H2 st = some (.lst [.int (a9), .int (n9), .int (c9)]) ∧ H st = none ∧ (0 < bb) ∧ (Ow.Sz 2441 bb) ∧ True) (fun N_2 h19 => ?_) (fun σ2 H2 h20 => ?_)
      · refine ⟨_, rfl, ?_⟩
        refine ⟨rfl, ?_⟩
        refine ⟨_, rfl, ?_⟩
        refine Ow.ifeqi (fun h21 => ?_) (fun h21 => ?_)
        · refine ⟨_, rfl, ?_⟩
          refine ⟨_, _, _, _, _, rfl, h18, (by walk_at "o2"), (by walk_at "o2"), fun t_4 a2_5 n2_5 h22 h23 => ?_⟩
          refine ⟨_, _, rfl, rfl, ?_⟩
          refine ⟨_, rfl, fun l_bottom h_l_bottom => ?_⟩
          have z_l_bottom : Ow.Sz 5 l_bottom := by rw [h_l_bottom]; exact (Ow.Sz.add (Ow.Sz.mono (Ow.Sz.lit (n := 1) (i := 1) (by decide)) (by decide : 1 ≤ 4)) (Ow.Sz.rng (n := 4) h22 h23 (by decide)))
          exact h19 _ _ ⟨l_bottom, st, _, _, _, _, _, _, _, _, _, _, _, _, rfl, (Ow.same_mut (Ow.same_frame h10 h17 h12) h12), upd_same, h12, (by first | (walk_at "o2") | (rw [h_l_bottom]; exact Int.mul_pos (by omega) (Ow.p2 _))), (Ow.Sz.mono z_l_bottom (by decide : 5 ≤ 2441)), trivial⟩
        · exact h19 _ _ ⟨ab, st, _, _, _, _, _, _, _, _, _, _, _, _, rfl, (Ow.same_frame h10 h17 h12), h18, h12, (by first | (walk_at "o2") | (rw [h_ab]; exact Int.mul_pos (by omega) (Ow.p2 _))), (Ow.Sz.mono (Ow.Sz.abs h16 h_ab) (by decide : 2440 ≤ 2441)), trivial⟩
      · obtain ⟨bb, st_2, a9_2, n9_2, c9_2, _, _, _, _, _, _, _, _, _, rfl, h24, h25, h26, h27, h28, _⟩ := h20
        obtain ⟨kd, hk0, hk1, hk2, hk3, hk4, hk5⟩ := Ow.kind_of (s := l_sort) (w := l_width) (p := pt) (by omega) (by omega) (by omega) (by omega) (by assumption) (by assumption)
        refine ⟨_, rfl, ?_⟩
        refine ⟨_, rfl, ?_⟩
        refine ⟨_, rfl, ?_⟩
        refine ⟨_, _, kd, rfl, (by walk_at "o2"), (by walk_at "o2"), (by walk_at "o2"), fun lo hi h29 h30 h31 h32 p_2 Hn_2 h33 h34 h35 => ?_⟩
        refine ⟨_, rfl, ?_⟩
        refine ⟨_, _, _, _, _, _, _, _, rfl, (h33 _ _ h25), h35, h31, h32, (by walk_at "o2"), (Ow.Sz.mono h28 (by decide : 2441 ≤ 2442)), (Ow.ne_sym (ne_of_none h25 h34)), fun l_top_here a2_6 n2_6 h36 Hn_3 h37 h38 => ?_⟩
        refine Ow.gnm ?_
        refine Ow.join (fun σ2 H2 => ∃ (bc : Int) (st : Addr) (a9 : Int) (n9 : Int) (c9 : Int) (v_8 : Option V) (v_9 : Option V) (v_10 : Option V) (v_11 : Option V) (v_12 : Option V) (v_13 : Option V) (v_14 : Option V) (v_15 : Option V), σ2 = [some (.int (cell)), some (.ref ways), some (.ref st), some (.int (l_sort)), some (.int (l_width)), some (.int (pt)), some (.int (bc)), some (.int (l_top_here)), v_8, v_9, v_10, v_11, v_12, v_13, v_14, v_15] ∧ Same H H2 ∧ H2 st = some (.lst [.int (a9), .int (n9), .int (c9)]) ∧ H st = none ∧ (0 < bc) ∧ (Ow.Sz 2500 bc) ∧ True) (fun N_3 h39 => ?_) (fun σ2 H2 h40 => ?_)
        · refine ⟨_, rfl, ?_⟩
          refine ⟨_, _, _, _, _, rfl, h38, (by walk_at "o2"), (by walk_at "o2"), fun t_5 a2_7 n2_7 h41 h42 => ?_⟩
          refine ⟨rfl, ?_⟩
          refine ⟨_, rfl, ?_⟩
          refine Ow.ifeqi (fun h43 => ?_) (fun h43 => ?_)
          · refine ⟨_, rfl, ?_⟩
            refine ⟨_, rfl, ?_⟩
            refine ⟨_, _, rfl, rfl, (.inr (Ow.shlz (n := 31) h28 (by walk_at "o2") (by walk_at "o2") (by decide))), fun l_bottom_2 h_l_bottom_2 => ?_⟩
            have z_l_bottom_2 : Ow.Sz 2473 l_bottom_2 := by rw [h_l_bottom_2]; exact (Ow.Sz.shl (n := 31) h28 (by walk_at "o2"))
            exact h39 _ _ ⟨l_bottom_2, st_2, _, _, _, _, _, _, _, _, _, _, _, rfl, (Ow.same_mut (Ow.same_frame (h24.trans h33) h37 h26) h26), upd_same, h26, (by first | (walk_at "o2") | (rw [h_l_bottom_2]; exact Int.mul_pos (by omega) (Ow.p2 _))), (Ow.Sz.mono z_l_bottom_2 (by decide : 2473 ≤ 2500)), trivial⟩
          · exact h39 _ _ ⟨bb, st_2, _, _, _, _, _, _, _, _, _, _, _, rfl, (Ow.same_mut (Ow.same_frame (h24.trans h33) h37 h26) h26), upd_same, h26, (by first | (walk_at "o2") | (rw [h_bb]; exact Int.mul_pos (by omega) (Ow.p2 _))), (Ow.Sz.mono h28 (by decide : 2441 ≤ 2500)), trivial⟩
        · obtain ⟨bc, st_3, a9_3, n9_3, c9_3, _, _, _, _, _, _, _, _, rfl, h44, h45, h46, h47, h48, _⟩ := h40
          refine ⟨_, rfl, ?_⟩
          refine ⟨_, _, _, _, _, rfl, h45, (by walk_at "o2"), (by walk_at "o2"), fun l_turn a2_8 n2_8 h49 h50 => ?_⟩
          refine Ow.gnmS (σ' := [_, _, _, _, _, _, _, _, _, _, _, _, _, _, _, _]) rfl ?_
          refine ⟨_, rfl, ?_⟩
          refine ⟨_, rfl, ?_⟩
          refine ⟨_, rfl, ?_⟩
          refine ⟨_, _, _, kd, rfl, (by walk_at "o2"), (by walk_at "o2"), (by walk_at "o2"), (by walk_at "o2"), fun o dx Hn_4 h51 h52 h53 => ?_⟩
          refine Ow.gnmS (σ' := [_, _, _, _, _, _, _, _, _, _, _, _, _, _, _, _]) rfl ?_
          refine ⟨_, rfl, (by walk_at "o2"), (by walk_at "o2"), ?_⟩
          refine for_range (lo := 0) (fun i σ2 H2 => ∃ (v_10 : Option V) (v_11 : Option V) (v_12 : Option V) (v_13 : Option V) (v_14 : Option V) (v_15 : Option V), σ2 = [some (.int (cell)), some (.ref ways), some (.ref st_3), some (.int (l_sort)), some (.int (l_width)), some (.int (pt)), some (.int (bc)), some (.int (l_top_here)), some (.int (l_turn)), some (.ref o), v_10, v_11, v_12, v_13, v_14, v_15] ∧ Same _ H2) ⟨_, _, _, _, _, _, rfl, Same.refl _⟩ ?_ ?_
          · rintro i _ Hn_5 h55 ⟨_, _, _, _, _, _, rfl, h54⟩
            refine Ow.gturn (fun l_j h_l_j => ?_)
            have z_l_j : Ow.Sz 4 l_j := by unfold Ow.Sz; omega
            refine ⟨_, rfl, ?_⟩
            refine ⟨_, rfl, ?_⟩
            refine ⟨_, _, rfl, rfl, ?_⟩
            refine ⟨_, _, rfl, rfl, (by walk_at "o2"), fun l_at h_l_at h0_l_at h1_l_at => ?_⟩
            refine Ow.gnmS (σ' := [_, _, _, _, _, _, _, _, _, _, _, _, _, _, _, _]) rfl ?_
            refine ⟨by show 4 ≤ sizeLine; decide, fun p_3 h_p_3 => ?_⟩
            refine ⟨_, rfl, ?_⟩
            refine Ow.ixs4 (SqL.of upd_same) (by walk_at "o2") (fun it h_it => ?_)
            refine Ow.gnmS (σ' := [_, _, _, _, _, _, _, _, _, _, _, _, _, _, _, _]) rfl ?_
            refine ⟨_, rfl, ?_⟩
            refine ⟨_, rfl, ?_⟩
            refine ⟨_, _, rfl, rfl, ?_⟩
            refine ⟨_, _, rfl, rfl, (by walk_at "o2"), fun r h_r h0_r h1_r => ?_⟩
            refine ⟨_, _, rfl, rfl, ?_⟩
            refine Ow.gnmS (σ' := [_, _, _, _, _, _, _, _, _, _, _, _, _, _, _, _]) rfl ?_
            obtain ⟨wz, hwz⟩ : ∃ wz, it = Ow.wrd_Way wz := by rcases h_it with ⟨_, rfl⟩ | ⟨_, rfl⟩ | ⟨_, rfl⟩ | ⟨_, rfl⟩; exact ⟨.Down, rfl⟩; exact ⟨.Up, rfl⟩; exact ⟨.Cut, rfl⟩; exact ⟨.Near, rfl⟩
            refine ⟨_, rfl, ?_⟩
            refine ⟨_, rfl, ?_⟩
            refine ⟨_, rfl, ?_⟩
            refine ⟨_, _, rfl, rfl, (.inr (Ow.shlz (n := 31) h36 (by walk_at "o2") (by walk_at "o2") (by decide))), fun s h_s => ?_⟩
            have z_s : Ow.Sz 2532 s := by rw [h_s]; exact (Ow.Sz.shl (n := 31) h36 (by walk_at "o2"))
            refine ⟨_, rfl, ?_⟩
            refine ⟨_, _, _, wz, rfl, (by walk_at "o2"), (by walk_at "o2"), (Ow.Sz.mono z_s (by decide : 2532 ≤ 4000)), (Ow.Sz.mono h48 (by decide : 2500 ≤ 4000)), fun l_number_here h56 => ?_⟩
            refine Ow.gnmS (σ' := [_, _, _, _, _, _, _, _, _, _, _, _, _, _, _, _]) rfl ?_
            refine ⟨_, rfl, ?_⟩
            refine ⟨_, rfl, ?_⟩
            refine ⟨_, rfl, ?_⟩
            refine ixo_Way T (i := l_at) (SqL.of (Ow.at_new h_p_3 (h54 _ _ (h51 _ _ (Ow.at_mut (ne_of_none c0 h46) (h44 _ _ c0)))))) (Ow.at_new h_p_3 (h54 _ _ (h51 _ _ (Ow.at_mut (ne_of_none c1 h46) (h44 _ _ c1))))) (Ow.at_new h_p_3 (h54 _ _ (h51 _ _ (Ow.at_mut (ne_of_none c2 h46) (h44 _ _ c2))))) (Ow.at_new h_p_3 (h54 _ _ (h51 _ _ (Ow.at_mut (ne_of_none c3 h46) (h44 _ _ c3))))) (Ow.at_new h_p_3 (h54 _ _ (h51 _ _ (Ow.at_mut (ne_of_none c4 h46) (h44 _ _ c4))))) (by walk_at "o2") (fun wy o_2 dx_2 h_wy h_o_2 => ?_)
            have hw_wy : it = Ow.wrd_Way wy := by rcases h_it with ⟨hz, rfl⟩ | ⟨hz, rfl⟩ | ⟨hz, rfl⟩ | ⟨hz, rfl⟩ <;> cases wy <;> first | rfl | (exfalso; simp only [ix_Way] at h_wy; omega)
            refine ⟨_, rfl, ?_⟩
            refine ⟨_, rfl, ?_⟩
            refine ⟨_, rfl, ?_⟩
            refine ⟨_, _, _, _, _, kd, wy, _, _, rfl, (Ow.at_new h_p_3 (h54 _ _ h53)), (by walk_at "o2"), h_o_2, (Ow.Sz.mono h36 (by decide : 2500 ≤ 2600)), (by walk_at "o2"), (Ow.Sz.mono h48 (by decide : 2500 ≤ 4000)), fun b mk h57 h58 p_4 Hn_6 h59 h60 h61 => ?_⟩
            refine ⟨_, rfl, ?_⟩
            refine ⟨_, rfl, ?_⟩
            refine ⟨_, rfl, ?_⟩
            refine ⟨_, rfl, ?_⟩
            refine ⟨_, _, _, _, kd, rfl, (by first | with_reducible assumption | rfl | exact ⟨by decide, by decide⟩ | omega), (by first | with_reducible assumption | rfl | exact ⟨by decide, by decide⟩ | omega), (by first | with_reducible assumption | rfl | exact ⟨by decide, by decide⟩ | omega), fun b_2 mk_2 h62 h63 p_5 Hn_7 h64 h65 h66 => ?_⟩
            refine ⟨_, _, _, _, _, _, rfl, (h64 _ _ h61), h66, (by first | exact Ow.good_b (by assumption) (by assumption) (by assumption) (by assumption) hk3 (by assumption) hwz | exact Ow.good_m (by assumption) (by assumption) (by assumption) (by assumption) hk3 (by assumption) hwz | exact Ow.unit_b (by assumption) (by assumption) rfl (by assumption) (by assumption) | exact Ow.unit_m (by assumption) (by assumption) rfl (by assumption) (by assumption) | exact Ow.mk3 (by assumption)), (by first | exact Ow.good_b (by assumption) (by assumption) (by assumption) (by assumption) hk3 (by assumption) hwz | exact Ow.good_m (by assumption) (by assumption) (by assumption) (by assumption) hk3 (by assumption) hwz | exact Ow.unit_b (by assumption) (by assumption) rfl (by assumption) (by assumption) | exact Ow.unit_m (by assumption) (by assumption) rfl (by assumption) (by assumption) | exact Ow.mk3 (by assumption)), (by first | exact Ow.good_b (by assumption) (by assumption) (by assumption) (by assumption) hk3 (by assumption) hwz | exact Ow.good_m (by assumption) (by assumption) (by assumption) (by assumption) hk3 (by assumption) hwz | exact Ow.unit_b (by assumption) (by assumption) rfl (by assumption) (by assumption) | exact Ow.unit_m (by assumption) (by assumption) rfl (by assumption) (by assumption) | exact Ow.mk3 (by assumption)), fun Hn_8 h67 => ?_⟩
            refine ⟨_, rfl, ?_⟩
            refine iteF ?_
            intro o_3 dx_3 h68 h69 h70
            refine ⟨_, _, _, rfl, upd_same, (by walk_at "o2"), (by walk_at "o2"), fun Hn_9 h71 h72 => ?_⟩
            refine ⟨rfl, ?_⟩
            refine ⟨_, rfl, ?_⟩
            refine ⟨_, rfl, ?_⟩
            refine ixo_Way T (i := l_at) (SqL.of (h71 _ _ (ne_of_none (h67 _ _ (h64 _ _ (h59 _ _ (Ow.at_new h_p_3 (h54 _ _ (h51 _ _ (Ow.at_mut (ne_of_none c0 h46) (h44 _ _ c0)))))))) h68) (Ow.at_new (Ow.free2 h70 h68) (Ow.at_new h69 (h67 _ _ (h64 _ _ (h59 _ _ (Ow.at_new h_p_3 (h54 _ _ (h51 _ _ (Ow.at_mut (ne_of_none c0 h46) (h44 _ _ c0)))))))))))) (h71 _ _ (ne_of_none (h67 _ _ (h64 _ _ (h59 _ _ (Ow.at_new h_p_3 (h54 _ _ (h51 _ _ (Ow.at_mut (ne_of_none c1 h46) (h44 _ _ c1)))))))) h68) (Ow.at_new (Ow.free2 h70 h68) (Ow.at_new h69 (h67 _ _ (h64 _ _ (h59 _ _ (Ow.at_new h_p_3 (h54 _ _ (h51 _ _ (Ow.at_mut (ne_of_none c1 h46) (h44 _ _ c1))))))))))) (h71 _ _ (ne_of_none (h67 _ _ (h64 _ _ (h59 _ _ (Ow.at_new h_p_3 (h54 _ _ (h51 _ _ (Ow.at_mut (ne_of_none c2 h46) (h44 _ _ c2)))))))) h68) (Ow.at_new (Ow.free2 h70 h68) (Ow.at_new h69 (h67 _ _ (h64 _ _ (h59 _ _ (Ow.at_new h_p_3 (h54 _ _ (h51 _ _ (Ow.at_mut (ne_of_none c2 h46) (h44 _ _ c2))))))))))) (h71 _ _ (ne_of_none (h67 _ _ (h64 _ _ (h59 _ _ (Ow.at_new h_p_3 (h54 _ _ (h51 _ _ (Ow.at_mut (ne_of_none c3 h46) (h44 _ _ c3)))))))) h68) (Ow.at_new (Ow.free2 h70 h68) (Ow.at_new h69 (h67 _ _ (h64 _ _ (h59 _ _ (Ow.at_new h_p_3 (h54 _ _ (h51 _ _ (Ow.at_mut (ne_of_none c3 h46) (h44 _ _ c3))))))))))) (h71 _ _ (ne_of_none (h67 _ _ (h64 _ _ (h59 _ _ (Ow.at_new h_p_3 (h54 _ _ (h51 _ _ (Ow.at_mut (ne_of_none c4 h46) (h44 _ _ c4)))))))) h68) (Ow.at_new (Ow.free2 h70 h68) (Ow.at_new h69 (h67 _ _ (h64 _ _ (h59 _ _ (Ow.at_new h_p_3 (h54 _ _ (h51 _ _ (Ow.at_mut (ne_of_none c4 h46) (h44 _ _ c4))))))))))) (by walk_at "o2") (fun wy_2 o_4 dx_4 h_wy_2 h_o_4 => ?_)
            have hw_wy_2 : it = Ow.wrd_Way wy_2 := by rcases h_it with ⟨hz, rfl⟩ | ⟨hz, rfl⟩ | ⟨hz, rfl⟩ | ⟨hz, rfl⟩ <;> cases wy_2 <;> first | rfl | (exfalso; simp only [ix_Way] at h_wy_2; omega)
            refine ⟨_, rfl, ?_⟩
            refine ⟨_, _, rfl, rfl, (.inr (Ow.mulx (Ow.Sz.rng (n := 4) h49 h50 (by decide)) (Ow.Sz.lit (n := 3) (i := 5) (by decide)) (by decide))), fun m h_m => ?_⟩
            have z_m : Ow.Sz 7 m := by rw [h_m]; exact (Ow.Sz.mul (Ow.Sz.rng (n := 4) h49 h50 (by decide)) (Ow.Sz.lit (n := 3) (i := 5) (by decide)))
            refine ⟨_, rfl, ?_⟩
            refine ⟨_, _, _, _, _, ((Ow.Tf_Kind.plain 4)), wy_2, _, _, rfl, h72, (by walk_at "o2"), h_o_4, (Ow.Sz.mono z_m (by decide : 7 ≤ 2600)), (by walk_at "o2"), (Ow.Sz.mono (Ow.Sz.lit (n := 1) (i := 1) (by decide)) (by decide : 1 ≤ 4000)), fun b_3 mk_3 h73 h74 p_6 Hn_10 h75 h76 h77 => ?_⟩
            refine Ow.gnmS (σ' := [_, _, _, _, _, _, _, _, _, _, _, _, _, _, _, _]) rfl ?_
            refine ⟨_, rfl, ?_⟩
            refine ⟨_, rfl, ?_⟩
            refine ⟨_, _, rfl, rfl, (.inr (Ow.mulx (Ow.Sz.rng (n := 4) h49 h50 (by decide)) (Ow.Sz.lit (n := 3) (i := 5) (by decide)) (by decide))), fun m_2 h_m_2 => ?_⟩
            have z_m_2 : Ow.Sz 7 m_2 := by rw [h_m_2]; exact (Ow.Sz.mul (Ow.Sz.rng (n := 4) h49 h50 (by decide)) (Ow.Sz.lit (n := 3) (i := 5) (by decide)))
            refine ⟨_, rfl, ?_⟩
            refine ⟨_, _, _, _, (((Ow.Tf_Kind.plain 4))), rfl, (by first | with_reducible assumption | rfl | exact ⟨by decide, by decide⟩ | omega), (by first | with_reducible assumption | rfl | exact ⟨by decide, by decide⟩ | omega), (by first | with_reducible assumption | rfl | exact ⟨by decide, by decide⟩ | omega), fun b_4 mk_4 h78 h79 p_7 Hn_11 h80 h81 h82 => ?_⟩
            refine ⟨_, _, _, _, _, _, rfl, (h80 _ _ h77), h82, (by first | exact Ow.good_b (by assumption) (by assumption) (by assumption) (by assumption) hk3 (by assumption) hwz | exact Ow.good_m (by assumption) (by assumption) (by assumption) (by assumption) hk3 (by assumption) hwz | exact Ow.unit_b (by assumption) (by assumption) rfl (by assumption) (by assumption) | exact Ow.unit_m (by assumption) (by assumption) rfl (by assumption) (by assumption) | exact Ow.mk3 (by assumption)), (by first | exact Ow.good_b (by assumption) (by assumption) (by assumption) (by assumption) hk3 (by assumption) hwz | exact Ow.good_m (by assumption) (by assumption) (by assumption) (by assumption) hk3 (by assumption) hwz | exact Ow.unit_b (by assumption) (by assumption) rfl (by assumption) (by assumption) | exact Ow.unit_m (by assumption) (by assumption) rfl (by assumption) (by assumption) | exact Ow.mk3 (by assumption)), (by first | exact Ow.good_b (by assumption) (by assumption) (by assumption) (by assumption) hk3 (by assumption) hwz | exact Ow.good_m (by assumption) (by assumption) (by assumption) (by assumption) hk3 (by assumption) hwz | exact Ow.unit_b (by assumption) (by assumption) rfl (by assumption) (by assumption) | exact Ow.unit_m (by assumption) (by assumption) rfl (by assumption) (by assumption) | exact Ow.mk3 (by assumption)), fun Hn_12 h83 => ?_⟩
            refine ⟨_, rfl, ?_⟩
            refine iteF ?_
            exact ⟨_, _, _, _, _, _, rfl, ((((Ow.same_frame ((((((h54.trans (Ow.same_new h_p_3)).trans h59).trans h64).trans h67).trans (Ow.same_new h69)).trans (Ow.same_new (Ow.free2 h70 h68))) h71 (Same.free ((((h54.trans (Ow.same_new h_p_3)).trans h59).trans h64).trans h67) h68)).trans h75).trans h80).trans h83)⟩
          · rintro _ Hn_13 ⟨_, _, _, _, _, _, rfl, h84⟩
            exact kont _ (((Ow.same_mut h44 h46).trans h51).trans h84)
theorem ok_l_cell (T : Tx K mg) : FnOk P w K mg base CX0 1 T.d_l_cell.f T.d_l_cell.fd ["_law_script", "_law_k"] (sp_l_cell T) := by
  refine T.d_l_cell.F.ok sc_l_cell (fun vs H Q E h => ?_) (fun cdv A outer s H vs Q E hr h => ?_)
  · obtain ⟨script, k, ns, rfl, _⟩ := h
    rfl
  · obtain ⟨script, k, ns, rfl, c0, c1, c2, kont⟩ := h
    refine ⟨_, (pss_cons (ps_if (pt_cmpR op_lt (pv 1) (Ow.pe_nmi (pe_callB call_len_seq (by rfl) T.z_len (by decide +kernel) (pa_cons (pv 0) pa_nil))) (nomark _)) (pss_one (ps_ret (pe_ix ix_list (pv 0) (pv 1) (fun _ _ => rfl)))) pss_nil)
        (pss_cons (ps_set (i := 2) sc_l_cell.nd rfl (Or.inl rfl) (Ow.pe_nmi (pe_op op_add (pe_op Ow.op_mulN (pv 1) pe_int) pe_int)))
        (pss_cons (ps_if (pt_cmpR op_gt (Ow.pe_nmi (pe_callB call_len_seq (by rfl) T.z_len (by decide +kernel) (pa_cons (pv 0) pa_nil))) pe_int (nomark _)) (pss_one (ps_set (i := 2) sc_l_cell.nd rfl (Or.inl rfl) (pe_op Ow.op_modN (pe_op op_add (pe_op Ow.op_mulN (pe_ix ix_list (pv 0) (pe_op Ow.op_modN (pe_op Ow.op_mulN (pv 1) pe_int) (Ow.pe_nmi (pe_callB call_len_seq (by rfl) T.z_len (by decide +kernel) (pa_cons (pv 0) pa_nil)))) (fun _ _ => rfl)) pe_int) (pe_op Ow.op_mulN (pv 1) pe_int)) pe_int))) pss_nil)
        (pss_one (ps_ret (pe_op Ow.op_modN (pe_op Ow.op_mulN (pv 2) (pv 2)) pe_int)))))), ?_⟩
    refine ⟨_, rfl, ?_⟩
    refine ⟨_, rfl, ?_⟩
    refine ⟨_, _, rfl, .inl c0, ?_⟩
    refine ⟨_, rfl, fun len h_len => ?_⟩
    rw [List.length_map] at h_len
    refine ⟨_, _, rfl, rfl, ?_⟩
    refine ⟨_, rfl, ?_⟩
    refine Ow.ifd (fun h1 => ?_) (fun h1 => ?_)
    · refine ⟨_, rfl, ?_⟩
      refine ⟨_, rfl, ?_⟩
      refine Ow.ixn (xs := ns) (i := k) c0 (by walk_at "o2") (by walk_at "o2") (fun it h_it => ?_)
      exact kont it
    · refine ⟨_, rfl, ?_⟩
      refine ⟨_, _, rfl, rfl, (by walk_at "o2"), fun m h_m => ?_⟩
      refine ⟨_, _, rfl, rfl, ?_⟩
      refine ⟨_, rfl, fun l_number_here h_l_number_here => ?_⟩
      refine ⟨_, rfl, ?_⟩
      refine ⟨_, _, rfl, .inl c0, ?_⟩
      refine ⟨_, rfl, fun len_2 h_len_2 => ?_⟩
      rw [List.length_map] at h_len_2
      refine ⟨_, _, rfl, rfl, ?_⟩
      refine ⟨_, rfl, ?_⟩
      refine Ow.ifd (fun h2 => ?_) (fun h2 => ?_)
      · refine ⟨_, rfl, ?_⟩
        refine ⟨_, rfl, ?_⟩
        refine ⟨_, _, rfl, rfl, (by walk_at "o2"), fun m_2 h_m_2 => ?_⟩
        refine ⟨_, rfl, ?_⟩
        refine ⟨_, _, rfl, .inl c0, ?_⟩
        refine ⟨_, rfl, fun len_3 h_len_3 => ?_⟩
        rw [List.length_map] at h_len_3
        refine ⟨_, _, rfl, rfl, (by walk_at "o2"), fun r h_r h0_r h1_r => ?_⟩
        refine Ow.ixn (xs := ns) (i := r) c0 (by walk_at "o2") (by walk_at "o2") (fun it_2 h_it_2 => ?_)
        refine ⟨_, _, rfl, rfl, (by walk_at "o2"), fun m_3 h_m_3 => ?_⟩
        refine ⟨_, rfl, ?_⟩
        refine ⟨_, _, rfl, rfl, (by walk_at "o2"), fun m_4 h_m_4 => ?_⟩
        refine ⟨_, _, rfl, rfl, ?_⟩
        refine ⟨_, _, rfl, rfl, (by walk_at "o2"), fun l_number_here_2 h_l_number_here_2 h0_l_number_here_2 h1_l_number_here_2 => ?_⟩
        refine ⟨_, rfl, ?_⟩
        refine ⟨_, rfl, ?_⟩
        refine ⟨_, _, rfl, rfl, (.inr (Ow.mulx (Ow.Sz.md h0_l_number_here_2 h1_l_number_here_2 (Ow.Sz.lit (n := 31) (i := 2147483647) (by decide))) (Ow.Sz.md h0_l_number_here_2 h1_l_number_here_2 (Ow.Sz.lit (n := 31) (i := 2147483647) (by decide))) (by decide))), fun m_5 h_m_5 => ?_⟩
        have z_m_5 : Ow.Sz 62 m_5 := by rw [h_m_5]; exact (Ow.Sz.mul (Ow.Sz.md h0_l_number_here_2 h1_l_number_here_2 (Ow.Sz.lit (n := 31) (i := 2147483647) (by decide))) (Ow.Sz.md h0_l_number_here_2 h1_l_number_here_2 (Ow.Sz.lit (n := 31) (i := 2147483647) (by decide))))
        refine ⟨_, _, rfl, rfl, (by walk_at "o2"), fun r_2 h_r_2 h0_r_2 h1_r_2 => ?_⟩
        exact kont r_2
      · refine ⟨_, rfl, ?_⟩
        refine ⟨_, rfl, ?_⟩
        refine ⟨_, _, rfl, rfl, (by walk_at "o2"), fun m_6 h_m_6 => ?_⟩
        refine ⟨_, _, rfl, rfl, (by walk_at "o2"), fun r_3 h_r_3 h0_r_3 h1_r_3 => ?_⟩
        exact kont r_3
theorem ok_law (T : Tx K mg) : FnOk P w K mg base CX0 9 T.d_law.f T.d_law.fd ["_law_script"] (sp_law K) := by
  refine T.d_law.F.ok sc_law (fun vs H Q E h => ?_) (fun cdv A outer s H vs Q E hr h => ?_)
  · obtain ⟨script, ns, rfl, _⟩ := h
    rfl
  · obtain ⟨script, ns, rfl, c0, c1, kont⟩ := h
    refine ⟨_, (pss_cons (ps_setLc (i := 1) (g := gName 3) (tt := tYes) rfl sc_law.nd rfl rfl (sw_true rfl rfl rfl (by decide +kernel)) (pi_list (pe_lst (pa_cons pe_str (pa_cons pe_str (pa_cons pe_str (pa_cons pe_str pa_nil)))))) (own := [("_law_word", 3)]) (blkOk_by (N := ["_law_script", "_law_ways", "_law_k", "_law_word"]) (sc := defScope s_law) (by decide +kernel)) (fun _ _ _ _ _ => (pg_name (i := 3) sc_law.nd rfl (Or.inl rfl))) (fun _ _ _ _ _ => pts_nil) (fun _ _ _ _ _ => (pe_call (Ow.ok_way_of T) (hr.mono (by decide : 3 ≤ 8)) (by rfl) T.d_way_of.m T.d_way_of.F.kp T.d_way_of.b .nil pass0 (pa_cons (pv 3) pa_nil))))
        (pss_cons (ps_if (pt_cmpR op_eq (pe_op Ow.op_modN (pe_op Ow.op_divN (pe_call (Ow.ok_l_cell T) (hr.mono (by decide : 1 ≤ 8)) (by rfl) T.d_l_cell.m T.d_l_cell.F.kp T.d_l_cell.b .nil pass0 (pa_cons (pv 0) (pa_cons pe_int pa_nil))) pe_int) pe_int) pe_int (nomark _)) (pss_one (ps_set (i := 1) sc_law.nd rfl (Or.inl rfl) (pe_lst (pa_cons (Ow.pe_make00 T.m0_Down (by rfl) T.k_Down.m) (pa_cons (Ow.pe_make00 T.m0_Up (by rfl) T.k_Up.m) (pa_cons (Ow.pe_make00 T.m0_Cut (by rfl) T.k_Cut.m) (pa_cons (Ow.pe_make00 T.m0_Near (by rfl) T.k_Near.m) pa_nil))))))) pss_nil)
        (pss_cons (ps_for PassesOwn.never rfl (pi_range1 (by rfl) T.z_range (pa_cons (Ow.pe_nmi (pe_callB (call_max2 rfl) (by rfl) T.z_max (by decide +kernel) (pa_cons pe_int (pa_cons (Ow.pe_nmi (pe_callB (call_min2 rfl) (by rfl) T.z_min (by decide +kernel) (pa_cons pe_int (pa_cons (Ow.pe_nmi (pe_callB call_len_seq (by rfl) T.z_len (by decide +kernel) (pa_cons (pv 0) pa_nil))) pa_nil)))) pa_nil)))) pa_nil)) (pg_name (i := 2) sc_law.nd rfl (Or.inl rfl)) (pss_one (ps_if (pt_not (pt_val (pe_call (Ow.ok_l_one T) (hr.mono (by decide : 8 ≤ 8)) (by rfl) T.d_l_one.m T.d_l_one.F.kp T.d_l_one.b .nil pass0 (pa_cons (pe_call (Ow.ok_l_cell T) (hr.mono (by decide : 1 ≤ 8)) (by rfl) T.d_l_cell.m T.d_l_cell.F.kp T.d_l_cell.b .nil pass0 (pa_cons (pv 0) (pa_cons (pv 2) pa_nil))) (pa_cons (pv 1) pa_nil))))) (pss_one (ps_ret pe_bl)) pss_nil)))
        (pss_one (ps_ret pe_bl))))), ?_⟩
    refine ⟨by show 4 ≤ sizeLine; decide, fun p h_p => ?_⟩
    refine ⟨_, rfl, ⟨_, (SqL.of upd_same)⟩, ?_⟩
    intro D h_D
    refine Ow.unlc_start (K := K) (a := p) (xs := [.str ("down"), .str ("up"), .str ("cut"), .str ("near")]) ?_
    refine ⟨(SqL.of (Ow.at_new h_D upd_same)), ?_⟩
    refine ⟨rfl, ?_⟩
    refine Ow.tyes ?_
    refine iteT ?_
    refine ⟨_, rfl, ?_⟩
    refine ⟨_, Ow.F_Way.Down, rfl, rfl, fun o dx Hn h1 h2 h3 => ?_⟩
    refine ⟨_, (h1 _ _ upd_same), (by show 0 < sizeLine; decide), ?_⟩
    refine ⟨(SqL.of (Ow.at_mut (ne_of_none upd_same h_D) (h1 _ _ (Ow.at_new h_D upd_same)))), ?_⟩
    refine ⟨rfl, ?_⟩
    refine Ow.tyes ?_
    refine iteT ?_
    refine ⟨_, rfl, ?_⟩
    refine ⟨_, Ow.F_Way.Up, rfl, rfl, fun o_2 dx_2 Hn_2 h4 h5 h6 => ?_⟩
    refine ⟨_, (h4 _ _ upd_same), (by show 1 < sizeLine; decide), ?_⟩
    refine ⟨(SqL.of (Ow.at_mut (ne_of_none upd_same h_D) (h4 _ _ (Ow.at_mut (ne_of_none upd_same h_D) (h1 _ _ (Ow.at_new h_D upd_same)))))), ?_⟩
    refine ⟨rfl, ?_⟩
    refine Ow.tyes ?_
    refine iteT ?_
    refine ⟨_, rfl, ?_⟩
    refine ⟨_, Ow.F_Way.Cut, rfl, rfl, fun o_3 dx_3 Hn_3 h7 h8 h9 => ?_⟩
    refine ⟨_, (h7 _ _ upd_same), (by show 2 < sizeLine; decide), ?_⟩
    refine ⟨(SqL.of (Ow.at_mut (ne_of_none upd_same h_D) (h7 _ _ (Ow.at_mut (ne_of_none upd_same h_D) (h4 _ _ (Ow.at_mut (ne_of_none upd_same h_D) (h1 _ _ (Ow.at_new h_D upd_same)))))))), ?_⟩
    refine ⟨rfl, ?_⟩
    refine Ow.tyes ?_
    refine iteT ?_
    refine ⟨_, rfl, ?_⟩
    refine ⟨_, Ow.F_Way.Near, rfl, rfl, fun o_4 dx_4 Hn_4 h10 h11 h12 => ?_⟩
    refine ⟨_, (h10 _ _ upd_same), (by show 3 < sizeLine; decide), ?_⟩
    refine ⟨(SqL.of (Ow.at_mut (ne_of_none upd_same h_D) (h10 _ _ (Ow.at_mut (ne_of_none upd_same h_D) (h7 _ _ (Ow.at_mut (ne_of_none upd_same h_D) (h4 _ _ (Ow.at_mut (ne_of_none upd_same h_D) (h1 _ _ (Ow.at_new h_D upd_same)))))))))), ?_⟩
    refine ⟨_, rfl, ?_⟩
    refine ⟨_, _, _, rfl, (Ow.seq (Ow.same_mut ((Ow.same_mut ((Ow.same_mut ((Ow.same_mut (((Ow.same_new h_p).trans (Ow.same_new h_D)).trans h1) (Same.free (Ow.same_new h_p) h_D)).trans h4) (Same.free (Ow.same_new h_p) h_D)).trans h7) (Same.free (Ow.same_new h_p) h_D)).trans h10) (Same.free (Ow.same_new h_p) h_D)) c0), (by walk_at "o2"), (by walk_at "o2"), fun t => ?_⟩
    refine ⟨_, _, rfl, rfl, Ow.divz (by walk_at "o2") (Ow.Sz.lit (n := 3) (i := 5) (by decide)) (by decide) (by decide), fun q h_q => ?_⟩
    refine ⟨_, _, rfl, rfl, (by walk_at "o2"), fun r h_r h0_r h1_r => ?_⟩
    refine ⟨rfl, ?_⟩
    refine ⟨_, rfl, ?_⟩
    refine Ow.ifeqi (fun h13 => ?_) (fun h13 => ?_)
    · intro o_5 dx_5 h14 h15 h16
      intro o_6 dx_6 h17 h18 h19
      intro o_7 dx_7 h20 h21 h22
      intro o_8 dx_8 h23 h24 h25
      refine ⟨by show 4 ≤ sizeLine; decide, fun p_2 h_p_2 => ?_⟩
      refine ⟨_, rfl, ?_⟩
      refine ⟨_, _, rfl, .inl (Ow.seq ((((((((((Ow.same_mut ((Ow.same_mut ((Ow.same_mut ((Ow.same_mut (((Ow.same_new h_p).trans (Ow.same_new h_D)).trans h1) (Same.free (Ow.same_new h_p) h_D)).trans h4) (Same.free (Ow.same_new h_p) h_D)).trans h7) (Same.free (Ow.same_new h_p) h_D)).trans h10) (Same.free (Ow.same_new h_p) h_D)).trans (Ow.same_new h15)).trans (Ow.same_new (Ow.free2 h16 h14))).trans (Ow.same_new h18)).trans (Ow.same_new (Ow.free2 h19 h17))).trans (Ow.same_new h21)).trans (Ow.same_new (Ow.free2 h22 h20))).trans (Ow.same_new h24)).trans (Ow.same_new (Ow.free2 h25 h23))).trans (Ow.same_new h_p_2)) c0), ?_⟩
      refine ⟨_, rfl, fun len h_len => ?_⟩
      rw [List.length_map] at h_len
      refine ⟨_, _, rfl, ?_⟩
      refine ⟨_, rfl, fun m h_m => ?_⟩
      have hm_m := Ow.min_ite h_m
      refine ⟨_, _, rfl, ?_⟩
      refine ⟨_, rfl, fun m_2 h_m_2 => ?_⟩
      have hm_m_2 := Ow.max_ite h_m_2
      refine ⟨_, rfl, (by walk_at "o2"), (by walk_at "o2"), ?_⟩
      refine for_range (lo := 0) (fun i σ2 H2 => ∃ (v_2 : Option V) (v_3 : Option V), σ2 = [some (.ref script), some (.ref p_2), v_2, v_3] ∧ Same _ H2) ⟨_, _, rfl, Same.refl _⟩ ?_ ?_
      · rintro i _ Hn_5 h27 ⟨_, _, rfl, h26⟩
        refine Ow.gturn (fun l_k h_l_k => ?_)
        refine ⟨_, rfl, ?_⟩
        refine ⟨_, rfl, ?_⟩
        refine ⟨_, _, _, rfl, (Ow.seq (((((((((((Ow.same_mut ((Ow.same_mut ((Ow.same_mut ((Ow.same_mut (((Ow.same_new h_p).trans (Ow.same_new h_D)).trans h1) (Same.free (Ow.same_new h_p) h_D)).trans h4) (Same.free (Ow.same_new h_p) h_D)).trans h7) (Same.free (Ow.same_new h_p) h_D)).trans h10) (Same.free (Ow.same_new h_p) h_D)).trans (Ow.same_new h15)).trans (Ow.same_new (Ow.free2 h16 h14))).trans (Ow.same_new h18)).trans (Ow.same_new (Ow.free2 h19 h17))).trans (Ow.same_new h21)).trans (Ow.same_new (Ow.free2 h22 h20))).trans (Ow.same_new h24)).trans (Ow.same_new (Ow.free2 h25 h23))).trans (Ow.same_new h_p_2)).trans h26) c0), (by walk_at "o2"), (by walk_at "o2"), fun t_2 => ?_⟩
        refine ⟨_, rfl, ?_⟩
        refine ⟨_, _, _, _, _, _, _, _, _, _, rfl, (h26 _ _ upd_same), (h26 _ _ (Ow.at_new h_p_2 (Ow.at_new (Ow.free2 h25 h23) (Ow.at_new h24 (Ow.at_new (Ow.free2 h22 h20) (Ow.at_new h21 (Ow.at_new (Ow.free2 h19 h17) (Ow.at_new h18 upd_same)))))))), (h26 _ _ (Ow.at_new h_p_2 (Ow.at_new (Ow.free2 h25 h23) (Ow.at_new h24 (Ow.at_new (Ow.free2 h22 h20) (Ow.at_new h21 upd_same)))))), (h26 _ _ (Ow.at_new h_p_2 (Ow.at_new (Ow.free2 h25 h23) (Ow.at_new h24 upd_same)))), (h26 _ _ (Ow.at_new h_p_2 upd_same)), fun Hn_6 h28 => ?_⟩
        refine ⟨_, rfl, ?_⟩
        refine iteF ?_
        exact ⟨_, _, rfl, (h26.trans h28)⟩
      · rintro _ Hn_7 ⟨_, _, rfl, h29⟩
        exact kont _ (((((((((((Ow.same_mut ((Ow.same_mut ((Ow.same_mut ((Ow.same_mut (((Ow.same_new h_p).trans (Ow.same_new h_D)).trans h1) (Same.free (Ow.same_new h_p) h_D)).trans h4) (Same.free (Ow.same_new h_p) h_D)).trans h7) (Same.free (Ow.same_new h_p) h_D)).trans h10) (Same.free (Ow.same_new h_p) h_D)).trans (Ow.same_new h15)).trans (Ow.same_new (Ow.free2 h16 h14))).trans (Ow.same_new h18)).trans (Ow.same_new (Ow.free2 h19 h17))).trans (Ow.same_new h21)).trans (Ow.same_new (Ow.free2 h22 h20))).trans (Ow.same_new h24)).trans (Ow.same_new (Ow.free2 h25 h23))).trans (Ow.same_new h_p_2)).trans h29)
    · refine ⟨_, rfl, ?_⟩
      refine ⟨_, _, rfl, .inl (Ow.seq (Ow.same_mut ((Ow.same_mut ((Ow.same_mut ((Ow.same_mut (((Ow.same_new h_p).trans (Ow.same_new h_D)).trans h1) (Same.free (Ow.same_new h_p) h_D)).trans h4) (Same.free (Ow.same_new h_p) h_D)).trans h7) (Same.free (Ow.same_new h_p) h_D)).trans h10) (Same.free (Ow.same_new h_p) h_D)) c0), ?_⟩
      refine ⟨_, rfl, fun len_2 h_len_2 => ?_⟩
      rw [List.length_map] at h_len_2
      refine ⟨_, _, rfl, ?_⟩
      refine ⟨_, rfl, fun m_3 h_m_3 => ?_⟩
      have hm_m_3 := Ow.min_ite h_m_3
      refine ⟨_, _, rfl, ?_⟩
      refine ⟨_, rfl, fun m_4 h_m_4 => ?_⟩
      have hm_m_4 := Ow.max_ite h_m_4
      refine ⟨_, rfl, (by walk_at "o2"), (by walk_at "o2"), ?_⟩
      refine for_range (lo := 0) (fun i σ2 H2 => ∃ (v_2 : Option V) (v_3 : Option V), σ2 = [some (.ref script), some (.ref D), v_2, v_3] ∧ Same _ H2) ⟨_, _, rfl, Same.refl _⟩ ?_ ?_
      · rintro i_3 _ Hn_8 h31 ⟨_, _, rfl, h30⟩
        refine Ow.gturn (fun l_k_2 h_l_k_2 => ?_)
        refine ⟨_, rfl, ?_⟩
        refine ⟨_, rfl, ?_⟩
        refine ⟨_, _, _, rfl, (Ow.seq ((Ow.same_mut ((Ow.same_mut ((Ow.same_mut ((Ow.same_mut (((Ow.same_new h_p).trans (Ow.same_new h_D)).trans h1) (Same.free (Ow.same_new h_p) h_D)).trans h4) (Same.free (Ow.same_new h_p) h_D)).trans h7) (Same.free (Ow.same_new h_p) h_D)).trans h10) (Same.free (Ow.same_new h_p) h_D)).trans h30) c0), (by walk_at "o2"), (by walk_at "o2"), fun t_3 => ?_⟩
        refine ⟨_, rfl, ?_⟩
        refine ⟨_, _, _, _, _, _, _, _, _, _, rfl, (h30 _ _ upd_same), (h30 _ _ (Ow.at_mut (Ow.ne_sym (ne_of_none upd_same h2)) (h10 _ _ (Ow.at_mut (Ow.ne_sym (ne_of_none upd_same h2)) (h7 _ _ (Ow.at_mut (Ow.ne_sym (ne_of_none upd_same h2)) (h4 _ _ (Ow.at_mut (Ow.ne_sym (ne_of_none upd_same h2)) h3)))))))), (h30 _ _ (Ow.at_mut (Ow.ne_sym (ne_of_none upd_same h5)) (h10 _ _ (Ow.at_mut (Ow.ne_sym (ne_of_none upd_same h5)) (h7 _ _ (Ow.at_mut (Ow.ne_sym (ne_of_none upd_same h5)) h6)))))), (h30 _ _ (Ow.at_mut (Ow.ne_sym (ne_of_none upd_same h8)) (h10 _ _ (Ow.at_mut (Ow.ne_sym (ne_of_none upd_same h8)) h9)))), (h30 _ _ (Ow.at_mut (Ow.ne_sym (ne_of_none upd_same h11)) h12)), fun Hn_9 h32 => ?_⟩
        refine ⟨_, rfl, ?_⟩
        refine iteF ?_
        exact ⟨_, _, rfl, (h30.trans h32)⟩
      · rintro _ Hn_10 ⟨_, _, rfl, h33⟩
        exact kont _ ((Ow.same_mut ((Ow.same_mut ((Ow.same_mut ((Ow.same_mut (((Ow.same_new h_p).trans (Ow.same_new h_D)).trans h1) (Same.free (Ow.same_new h_p) h_D)).trans h4) (Same.free (Ow.same_new h_p) h_D)).trans h7) (Same.free (Ow.same_new h_p) h_D)).trans h10) (Same.free (Ow.same_new h_p) h_D)).trans h33)
end
def tx_mk {K : PySem.W.Frag} {h : Heap} {mg : Str → Option Value} (X : K.In h) (G : h.Ns mainGlobals mg) {K_Cut : Addr} {K_Down : Addr} {K_Kind : Addr} {K_Near : Addr} {K_Plain : Addr} {K_Pointed : Addr} {K_Signed : Addr} {K_Up : Addr}           {f_all_ways : Addr} {od_all_ways an_all_ways : Option Addr} {oc_all_ways kV_all_ways dc_all_ways pm_all_ways cd_all_ways ct_all_ways : Value} {sl_all_ways : Array (Option Value)} {f_way_of : Addr} {od_way_of an_way_of : Option Addr} {oc_way_of kV_way_of dc_way_of pm_way_of cd_way_of ct_way_of : Value} {sl_way_of : Array (Option Value)} {f_l_begun : Addr} {od_l_begun an_l_begun : Option Addr} {oc_l_begun kV_l_begun dc_l_begun pm_l_begun cd_l_begun ct_l_begun : Value} {sl_l_begun : Array (Option Value)} {f_l_draw : Addr} {od_l_draw an_l_draw : Option Addr} {oc_l_draw kV_l_draw dc_l_draw pm_l_draw cd_l_draw ct_l_draw : Value} {sl_l_draw : Array (Option Value)} {f_l_number : Addr} {od_l_number an_l_number : Option Addr} {oc_l_number kV_l_number dc_l_number pm_l_number cd_l_number ct_l_number : Value} {sl_l_number : Array (Option Value)} {f_l_top : Addr} {od_l_top an_l_top : Option Addr} {oc_l_top kV_l_top dc_l_top pm_l_top cd_l_top ct_l_top : Value} {sl_l_top : Array (Option Value)} {f_is_whole : Addr} {od_is_whole an_is_whole : Option Addr} {oc_is_whole kV_is_whole dc_is_whole pm_is_whole cd_is_whole ct_is_whole : Value} {sl_is_whole : Array (Option Value)} {f_need_width : Addr} {od_need_width an_need_width : Option Addr} {oc_need_width kV_need_width dc_need_width pm_need_width cd_need_width ct_need_width : Value} {sl_need_width : Array (Option Value)} {f_Kind___init__ : Addr} {od_Kind___init__ an_Kind___init__ : Option Addr} {oc_Kind___init__ kV_Kind___init__ dc_Kind___init__ pm_Kind___init__ cd_Kind___init__ ct_Kind___init__ : Value} {sl_Kind___init__ : Array (Option Value)} {f_Pointed___init__ : Addr} {od_Pointed___init__ an_Pointed___init__ : Option Addr} {oc_Pointed___init__ kV_Pointed___init__ dc_Pointed___init__ pm_Pointed___init__ cd_Pointed___init__ ct_Pointed___init__ : Value} {sl_Pointed___init__ : Array (Option Value)} {f_Plain___init__ : Addr} {od_Plain___init__ an_Plain___init__ : Option Addr} {oc_Plain___init__ kV_Plain___init__ dc_Plain___init__ pm_Plain___init__ cd_Plain___init__ ct_Plain___init__ : Value} {sl_Plain___init__ : Array (Option Value)} {f_Signed___init__ : Addr} {od_Signed___init__ an_Signed___init__ : Option Addr} {oc_Signed___init__ kV_Signed___init__ dc_Signed___init__ pm_Signed___init__ cd_Signed___init__ ct_Signed___init__ : Value} {sl_Signed___init__ : Array (Option Value)} {f_l_kind : Addr} {od_l_kind an_l_kind : Option Addr} {oc_l_kind kV_l_kind dc_l_kind pm_l_kind cd_l_kind ct_l_kind : Value} {sl_l_kind : Array (Option Value)} {f_l_ends : Addr} {od_l_ends an_l_ends : Option Addr} {oc_l_ends kV_l_ends dc_l_ends pm_l_ends cd_l_ends ct_l_ends : Value} {sl_l_ends : Array (Option Value)} {f_l_right : Addr} {od_l_right an_l_right : Option Addr} {oc_l_right kV_l_right dc_l_right pm_l_right cd_l_right ct_l_right : Value} {sl_l_right : Array (Option Value)} {f_l_whole_of : Addr} {od_l_whole_of an_l_whole_of : Option Addr} {oc_l_whole_of kV_l_whole_of dc_l_whole_of pm_l_whole_of cd_l_whole_of ct_l_whole_of : Value} {sl_l_whole_of : Array (Option Value)} {f_Down_adjust : Addr} {od_Down_adjust an_Down_adjust : Option Addr} {oc_Down_adjust kV_Down_adjust dc_Down_adjust pm_Down_adjust cd_Down_adjust ct_Down_adjust : Value} {sl_Down_adjust : Array (Option Value)}  {f_Up_adjust : Addr} {od_Up_adjust an_Up_adjust : Option Addr} {oc_Up_adjust kV_Up_adjust dc_Up_adjust pm_Up_adjust cd_Up_adjust ct_Up_adjust : Value} {sl_Up_adjust : Array (Option Value)}  {f_Way_adjust : Addr} {od_Way_adjust an_Way_adjust : Option Addr} {oc_Way_adjust kV_Way_adjust dc_Way_adjust pm_Way_adjust cd_Way_adjust ct_Way_adjust : Value} {sl_Way_adjust : Array (Option Value)}  {f_Near_adjust : Addr} {od_Near_adjust an_Near_adjust : Option Addr} {oc_Near_adjust kV_Near_adjust dc_Near_adjust pm_Near_adjust cd_Near_adjust ct_Near_adjust : Value} {sl_Near_adjust : Array (Option Value)}  {f_Way_rounded : Addr} {od_Way_rounded an_Way_rounded : Option Addr} {oc_Way_rounded kV_Way_rounded dc_Way_rounded pm_Way_rounded cd_Way_rounded ct_Way_rounded : Value} {sl_Way_rounded : Array (Option Value)}     {f_Plain_least : Addr} {od_Plain_least an_Plain_least : Option Addr} {oc_Plain_least kV_Plain_least dc_Plain_least pm_Plain_least cd_Plain_least ct_Plain_least : Value} {sl_Plain_least : Array (Option Value)}  {f_Kind_least : Addr} {od_Kind_least an_Kind_least : Option Addr} {oc_Kind_least kV_Kind_least dc_Kind_least pm_Kind_least cd_Kind_least ct_Kind_least : Value} {sl_Kind_least : Array (Option Value)}   {f_Plain_greatest : Addr} {od_Plain_greatest an_Plain_greatest : Option Addr} {oc_Plain_greatest kV_Plain_greatest dc_Plain_greatest pm_Plain_greatest cd_Plain_greatest ct_Plain_greatest : Value} {sl_Plain_greatest : Array (Option Value)}  {f_Kind_greatest : Addr} {od_Kind_greatest an_Kind_greatest : Option Addr} {oc_Kind_greatest kV_Kind_greatest dc_Kind_greatest pm_Kind_greatest cd_Kind_greatest ct_Kind_greatest : Value} {sl_Kind_greatest : Array (Option Value)}   {f_Kind_is_count : Addr} {od_Kind_is_count an_Kind_is_count : Option Addr} {oc_Kind_is_count kV_Kind_is_count dc_Kind_is_count pm_Kind_is_count cd_Kind_is_count ct_Kind_is_count : Value} {sl_Kind_is_count : Array (Option Value)}    {f_Kind_bits_of : Addr} {od_Kind_bits_of an_Kind_bits_of : Option Addr} {oc_Kind_bits_of kV_Kind_bits_of dc_Kind_bits_of pm_Kind_bits_of cd_Kind_bits_of ct_Kind_bits_of : Value} {sl_Kind_bits_of : Array (Option Value)}    {f_Kind_stop_at : Addr} {od_Kind_stop_at an_Kind_stop_at : Option Addr} {oc_Kind_stop_at kV_Kind_stop_at dc_Kind_stop_at pm_Kind_stop_at cd_Kind_stop_at ct_Kind_stop_at : Value} {sl_Kind_stop_at : Array (Option Value)}    {f_Kind_go_round : Addr} {od_Kind_go_round an_Kind_go_round : Option Addr} {oc_Kind_go_round kV_Kind_go_round dc_Kind_go_round pm_Kind_go_round cd_Kind_go_round ct_Kind_go_round : Value} {sl_Kind_go_round : Array (Option Value)}    {f_into : Addr} {od_into an_into : Option Addr} {oc_into kV_into dc_into pm_into cd_into ct_into : Value} {sl_into : Array (Option Value)} {f_l_whole : Addr} {od_l_whole an_l_whole : Option Addr} {oc_l_whole kV_l_whole dc_l_whole pm_l_whole cd_l_whole ct_l_whole : Value} {sl_l_whole : Array (Option Value)} {f_l_good : Addr} {od_l_good an_l_good : Option Addr} {oc_l_good kV_l_good dc_l_good pm_l_good cd_l_good ct_l_good : Value} {sl_l_good : Array (Option Value)} {f_l_due : Addr} {od_l_due an_l_due : Option Addr} {oc_l_due kV_l_due dc_l_due pm_l_due cd_l_due ct_l_due : Value} {sl_l_due : Array (Option Value)} {f_l_one : Addr} {od_l_one an_l_one : Option Addr} {oc_l_one kV_l_one dc_l_one pm_l_one cd_l_one ct_l_one : Value} {sl_l_one : Array (Option Value)} {f_l_cell : Addr} {od_l_cell an_l_cell : Option Addr} {oc_l_cell kV_l_cell dc_l_cell pm_l_cell cd_l_cell ct_l_cell : Value} {sl_l_cell : Array (Option Value)} {f_law : Addr} {od_law an_law : Option Addr} {oc_law kV_law dc_law pm_law cd_law ct_law : Value} {sl_law : Array (Option Value)}    {mcc_Kind___init__ : Value} {tk_LEAST_WIDTH : Tok} {tk_GREATEST_WIDTH : Tok}           
    (ak_Cut : PySem.W.nsIn K mainGlobals "Cut" = some (some (.ref K_Cut)))
    (kp_Cut : PySem.W.plainGet K K_Cut Str.empty = true)
    (kh_Cut : PySem.W.hasDictIn K K_Cut = true)
    (ko_Cut : PySem.W.plainOver K K_Cut = true)
    (ks_Cut : PySem.W.findIn K (.ref K_Cut) "__setattr__" = some (some (.builtin "object.__setattr__")))
    (ak_Down : PySem.W.nsIn K mainGlobals "Down" = some (some (.ref K_Down)))
    (kp_Down : PySem.W.plainGet K K_Down Str.empty = true)
    (kh_Down : PySem.W.hasDictIn K K_Down = true)
    (ko_Down : PySem.W.plainOver K K_Down = true)
    (ks_Down : PySem.W.findIn K (.ref K_Down) "__setattr__" = some (some (.builtin "object.__setattr__")))
    (ak_Kind : PySem.W.nsIn K mainGlobals "Kind" = some (some (.ref K_Kind)))
    (kp_Kind : PySem.W.plainGet K K_Kind Str.empty = true)
    (kh_Kind : PySem.W.hasDictIn K K_Kind = true)
    (ko_Kind : PySem.W.plainOver K K_Kind = true)
    (ks_Kind : PySem.W.findIn K (.ref K_Kind) "__setattr__" = some (some (.builtin "object.__setattr__")))
    (ak_Near : PySem.W.nsIn K mainGlobals "Near" = some (some (.ref K_Near)))
    (kp_Near : PySem.W.plainGet K K_Near Str.empty = true)
    (kh_Near : PySem.W.hasDictIn K K_Near = true)
    (ko_Near : PySem.W.plainOver K K_Near = true)
    (ks_Near : PySem.W.findIn K (.ref K_Near) "__setattr__" = some (some (.builtin "object.__setattr__")))
    (ak_Plain : PySem.W.nsIn K mainGlobals "Plain" = some (some (.ref K_Plain)))
    (kp_Plain : PySem.W.plainGet K K_Plain Str.empty = true)
    (kh_Plain : PySem.W.hasDictIn K K_Plain = true)
    (ko_Plain : PySem.W.plainOver K K_Plain = true)
    (ks_Plain : PySem.W.findIn K (.ref K_Plain) "__setattr__" = some (some (.builtin "object.__setattr__")))
    (ak_Pointed : PySem.W.nsIn K mainGlobals "Pointed" = some (some (.ref K_Pointed)))
    (kp_Pointed : PySem.W.plainGet K K_Pointed Str.empty = true)
    (kh_Pointed : PySem.W.hasDictIn K K_Pointed = true)
    (ko_Pointed : PySem.W.plainOver K K_Pointed = true)
    (ks_Pointed : PySem.W.findIn K (.ref K_Pointed) "__setattr__" = some (some (.builtin "object.__setattr__")))
    (ak_Signed : PySem.W.nsIn K mainGlobals "Signed" = some (some (.ref K_Signed)))
    (kp_Signed : PySem.W.plainGet K K_Signed Str.empty = true)
    (kh_Signed : PySem.W.hasDictIn K K_Signed = true)
    (ko_Signed : PySem.W.plainOver K K_Signed = true)
    (ks_Signed : PySem.W.findIn K (.ref K_Signed) "__setattr__" = some (some (.builtin "object.__setattr__")))
    (ak_Up : PySem.W.nsIn K mainGlobals "Up" = some (some (.ref K_Up)))
    (kp_Up : PySem.W.plainGet K K_Up Str.empty = true)
    (kh_Up : PySem.W.hasDictIn K K_Up = true)
    (ko_Up : PySem.W.plainOver K K_Up = true)
    (ks_Up : PySem.W.findIn K (.ref K_Up) "__setattr__" = some (some (.builtin "object.__setattr__")))
    (km_Cut : PySem.W.makesIn K K_Cut = true)
    (ki_Cut : PySem.W.findIn K (.ref K_Cut) "__init__" = some (some (.builtin "object.__init__")))
    (kt_Cut : PySem.W.mroIn K K_Cut (.type "object") = some true)
    (kk_Cut : PySem.W.keepIn K (.ref K_Cut) = true)
    (km_Down : PySem.W.makesIn K K_Down = true)
    (ki_Down : PySem.W.findIn K (.ref K_Down) "__init__" = some (some (.builtin "object.__init__")))
    (kt_Down : PySem.W.mroIn K K_Down (.type "object") = some true)
    (kk_Down : PySem.W.keepIn K (.ref K_Down) = true)
    (km_Near : PySem.W.makesIn K K_Near = true)
    (ki_Near : PySem.W.findIn K (.ref K_Near) "__init__" = some (some (.builtin "object.__init__")))
    (kt_Near : PySem.W.mroIn K K_Near (.type "object") = some true)
    (kk_Near : PySem.W.keepIn K (.ref K_Near) = true)
    (km_Up : PySem.W.makesIn K K_Up = true)
    (ki_Up : PySem.W.findIn K (.ref K_Up) "__init__" = some (some (.builtin "object.__init__")))
    (kt_Up : PySem.W.mroIn K K_Up (.type "object") = some true)
    (kk_Up : PySem.W.keepIn K (.ref K_Up) = true)
    (nah_Plain_point : PySem.W.findIn K (.ref K_Plain) "point" = some none)
    (nah_Plain_width : PySem.W.findIn K (.ref K_Plain) "width" = some none)
    (nah_Pointed_point : PySem.W.findIn K (.ref K_Pointed) "point" = some none)
    (nah_Pointed_width : PySem.W.findIn K (.ref K_Pointed) "width" = some none)
    (nah_Signed_point : PySem.W.findIn K (.ref K_Signed) "point" = some none)
    (nah_Signed_width : PySem.W.findIn K (.ref K_Signed) "width" = some none)
    (a_all_ways : PySem.W.nsIn K mainGlobals "all_ways" = some (some (.ref f_all_ways)))
    (l_all_ways : K.lookup f_all_ways = some ⟨oc_all_ways, od_all_ways, .func (PySem.W.fnOf "all_ways" "all_ways" (defArgs s_all_ways) (defBody s_all_ways) (defScope s_all_ways) .none kV_all_ways dc_all_ways pm_all_ways an_all_ways cd_all_ways ct_all_ways), sl_all_ways⟩)
    (c_all_ways : PySem.W.codeIn K cd_all_ways "all_ways" = true)
    (k_all_ways : PySem.W.keepIn K (.ref f_all_ways) = true)
    (a_way_of : PySem.W.nsIn K mainGlobals "way_of" = some (some (.ref f_way_of)))
    (l_way_of : K.lookup f_way_of = some ⟨oc_way_of, od_way_of, .func (PySem.W.fnOf "way_of" "way_of" (defArgs s_way_of) (defBody s_way_of) (defScope s_way_of) .none kV_way_of dc_way_of pm_way_of an_way_of cd_way_of ct_way_of), sl_way_of⟩)
    (c_way_of : PySem.W.codeIn K cd_way_of "way_of" = true)
    (k_way_of : PySem.W.keepIn K (.ref f_way_of) = true)
    (a_l_begun : PySem.W.nsIn K mainGlobals "_law_begun" = some (some (.ref f_l_begun)))
    (l_l_begun : K.lookup f_l_begun = some ⟨oc_l_begun, od_l_begun, .func (PySem.W.fnOf "_law_begun" "_law_begun" (defArgs s_l_begun) (defBody s_l_begun) (defScope s_l_begun) .none kV_l_begun dc_l_begun pm_l_begun an_l_begun cd_l_begun ct_l_begun), sl_l_begun⟩)
    (c_l_begun : PySem.W.codeIn K cd_l_begun "_law_begun" = true)
    (k_l_begun : PySem.W.keepIn K (.ref f_l_begun) = true)
    (a_l_draw : PySem.W.nsIn K mainGlobals "_law_draw" = some (some (.ref f_l_draw)))
    (l_l_draw : K.lookup f_l_draw = some ⟨oc_l_draw, od_l_draw, .func (PySem.W.fnOf "_law_draw" "_law_draw" (defArgs s_l_draw) (defBody s_l_draw) (defScope s_l_draw) .none kV_l_draw dc_l_draw pm_l_draw an_l_draw cd_l_draw ct_l_draw), sl_l_draw⟩)
    (c_l_draw : PySem.W.codeIn K cd_l_draw "_law_draw" = true)
    (k_l_draw : PySem.W.keepIn K (.ref f_l_draw) = true)
    (a_l_number : PySem.W.nsIn K mainGlobals "_law_number" = some (some (.ref f_l_number)))
    (l_l_number : K.lookup f_l_number = some ⟨oc_l_number, od_l_number, .func (PySem.W.fnOf "_law_number" "_law_number" (defArgs s_l_number) (defBody s_l_number) (defScope s_l_number) .none kV_l_number dc_l_number pm_l_number an_l_number cd_l_number ct_l_number), sl_l_number⟩)
    (c_l_number : PySem.W.codeIn K cd_l_number "_law_number" = true)
    (k_l_number : PySem.W.keepIn K (.ref f_l_number) = true)
    (a_l_top : PySem.W.nsIn K mainGlobals "_law_top" = some (some (.ref f_l_top)))
    (l_l_top : K.lookup f_l_top = some ⟨oc_l_top, od_l_top, .func (PySem.W.fnOf "_law_top" "_law_top" (defArgs s_l_top) (defBody s_l_top) (defScope s_l_top) .none kV_l_top dc_l_top pm_l_top an_l_top cd_l_top ct_l_top), sl_l_top⟩)
    (c_l_top : PySem.W.codeIn K cd_l_top "_law_top" = true)
    (k_l_top : PySem.W.keepIn K (.ref f_l_top) = true)
    (a_is_whole : PySem.W.nsIn K mainGlobals "is_whole" = some (some (.ref f_is_whole)))
    (l_is_whole : K.lookup f_is_whole = some ⟨oc_is_whole, od_is_whole, .func (PySem.W.fnOf "is_whole" "is_whole" (defArgs s_is_whole) (defBody s_is_whole) (defScope s_is_whole) .none kV_is_whole dc_is_whole pm_is_whole an_is_whole cd_is_whole ct_is_whole), sl_is_whole⟩)
    (c_is_whole : PySem.W.codeIn K cd_is_whole "is_whole" = true)
    (k_is_whole : PySem.W.keepIn K (.ref f_is_whole) = true)
    (a_need_width : PySem.W.nsIn K mainGlobals "need_width" = some (some (.ref f_need_width)))
    (l_need_width : K.lookup f_need_width = some ⟨oc_need_width, od_need_width, .func (PySem.W.fnOf "need_width" "need_width" (defArgs s_need_width) (defBody s_need_width) (defScope s_need_width) .none kV_need_width dc_need_width pm_need_width an_need_width cd_need_width ct_need_width), sl_need_width⟩)
    (c_need_width : PySem.W.codeIn K cd_need_width "need_width" = true)
    (k_need_width : PySem.W.keepIn K (.ref f_need_width) = true)
    (l_Kind___init__ : K.lookup f_Kind___init__ = some ⟨oc_Kind___init__, od_Kind___init__, .func (PySem.W.fnOf "__init__" "Kind.__init__" (defArgs s_Kind___init__) (defBody s_Kind___init__) (defScope s_Kind___init__) .none kV_Kind___init__ dc_Kind___init__ pm_Kind___init__ an_Kind___init__ cd_Kind___init__ ct_Kind___init__), sl_Kind___init__⟩)
    (c_Kind___init__ : PySem.W.codeIn K cd_Kind___init__ "Kind.__init__" = true)
    (k_Kind___init__ : PySem.W.keepIn K (.ref f_Kind___init__) = true)
    (l_Pointed___init__ : K.lookup f_Pointed___init__ = some ⟨oc_Pointed___init__, od_Pointed___init__, .func (PySem.W.fnOf "__init__" "Pointed.__init__" (defArgs s_Pointed___init__) (defBody s_Pointed___init__) (defScope s_Pointed___init__) .none kV_Pointed___init__ dc_Pointed___init__ pm_Pointed___init__ an_Pointed___init__ cd_Pointed___init__ ct_Pointed___init__), sl_Pointed___init__⟩)
    (c_Pointed___init__ : PySem.W.codeIn K cd_Pointed___init__ "Pointed.__init__" = true)
    (k_Pointed___init__ : PySem.W.keepIn K (.ref f_Pointed___init__) = true)
    (l_Plain___init__ : K.lookup f_Plain___init__ = some ⟨oc_Plain___init__, od_Plain___init__, .func (PySem.W.fnOf "__init__" "Plain.__init__" (defArgs s_Plain___init__) (defBody s_Plain___init__) (defScope s_Plain___init__) .none kV_Plain___init__ dc_Plain___init__ pm_Plain___init__ an_Plain___init__ cd_Plain___init__ ct_Plain___init__), sl_Plain___init__⟩)
    (c_Plain___init__ : PySem.W.codeIn K cd_Plain___init__ "Plain.__init__" = true)
    (k_Plain___init__ : PySem.W.keepIn K (.ref f_Plain___init__) = true)
    (l_Signed___init__ : K.lookup f_Signed___init__ = some ⟨oc_Signed___init__, od_Signed___init__, .func (PySem.W.fnOf "__init__" "Signed.__init__" (defArgs s_Signed___init__) (defBody s_Signed___init__) (defScope s_Signed___init__) .none kV_Signed___init__ dc_Signed___init__ pm_Signed___init__ an_Signed___init__ cd_Signed___init__ ct_Signed___init__), sl_Signed___init__⟩)
    (c_Signed___init__ : PySem.W.codeIn K cd_Signed___init__ "Signed.__init__" = true)
    (k_Signed___init__ : PySem.W.keepIn K (.ref f_Signed___init__) = true)
    (a_l_kind : PySem.W.nsIn K mainGlobals "_law_kind" = some (some (.ref f_l_kind)))
    (l_l_kind : K.lookup f_l_kind = some ⟨oc_l_kind, od_l_kind, .func (PySem.W.fnOf "_law_kind" "_law_kind" (defArgs s_l_kind) (defBody s_l_kind) (defScope s_l_kind) .none kV_l_kind dc_l_kind pm_l_kind an_l_kind cd_l_kind ct_l_kind), sl_l_kind⟩)
    (c_l_kind : PySem.W.codeIn K cd_l_kind "_law_kind" = true)
    (k_l_kind : PySem.W.keepIn K (.ref f_l_kind) = true)
    (a_l_ends : PySem.W.nsIn K mainGlobals "_law_ends" = some (some (.ref f_l_ends)))
    (l_l_ends : K.lookup f_l_ends = some ⟨oc_l_ends, od_l_ends, .func (PySem.W.fnOf "_law_ends" "_law_ends" (defArgs s_l_ends) (defBody s_l_ends) (defScope s_l_ends) .none kV_l_ends dc_l_ends pm_l_ends an_l_ends cd_l_ends ct_l_ends), sl_l_ends⟩)
    (c_l_ends : PySem.W.codeIn K cd_l_ends "_law_ends" = true)
    (k_l_ends : PySem.W.keepIn K (.ref f_l_ends) = true)
    (a_l_right : PySem.W.nsIn K mainGlobals "_law_right" = some (some (.ref f_l_right)))
    (l_l_right : K.lookup f_l_right = some ⟨oc_l_right, od_l_right, .func (PySem.W.fnOf "_law_right" "_law_right" (defArgs s_l_right) (defBody s_l_right) (defScope s_l_right) .none kV_l_right dc_l_right pm_l_right an_l_right cd_l_right ct_l_right), sl_l_right⟩)
    (c_l_right : PySem.W.codeIn K cd_l_right "_law_right" = true)
    (k_l_right : PySem.W.keepIn K (.ref f_l_right) = true)
    (a_l_whole_of : PySem.W.nsIn K mainGlobals "_law_whole_of" = some (some (.ref f_l_whole_of)))
    (l_l_whole_of : K.lookup f_l_whole_of = some ⟨oc_l_whole_of, od_l_whole_of, .func (PySem.W.fnOf "_law_whole_of" "_law_whole_of" (defArgs s_l_whole_of) (defBody s_l_whole_of) (defScope s_l_whole_of) .none kV_l_whole_of dc_l_whole_of pm_l_whole_of an_l_whole_of cd_l_whole_of ct_l_whole_of), sl_l_whole_of⟩)
    (c_l_whole_of : PySem.W.codeIn K cd_l_whole_of "_law_whole_of" = true)
    (k_l_whole_of : PySem.W.keepIn K (.ref f_l_whole_of) = true)
    (l_Down_adjust : K.lookup f_Down_adjust = some ⟨oc_Down_adjust, od_Down_adjust, .func (PySem.W.fnOf "adjust" "Down.adjust" (defArgs s_Down_adjust) (defBody s_Down_adjust) (defScope s_Down_adjust) .none kV_Down_adjust dc_Down_adjust pm_Down_adjust an_Down_adjust cd_Down_adjust ct_Down_adjust), sl_Down_adjust⟩)
    (c_Down_adjust : PySem.W.codeIn K cd_Down_adjust "Down.adjust" = true)
    (k_Down_adjust : PySem.W.keepIn K (.ref f_Down_adjust) = true)
    (ma_Down_adjust : PySem.W.findIn K (.ref K_Down) "adjust" = some (some (.ref f_Down_adjust)))
    (mf_Down_adjust : PySem.W.isFn K (.ref f_Down_adjust) = true)
    (l_Up_adjust : K.lookup f_Up_adjust = some ⟨oc_Up_adjust, od_Up_adjust, .func (PySem.W.fnOf "adjust" "Up.adjust" (defArgs s_Up_adjust) (defBody s_Up_adjust) (defScope s_Up_adjust) .none kV_Up_adjust dc_Up_adjust pm_Up_adjust an_Up_adjust cd_Up_adjust ct_Up_adjust), sl_Up_adjust⟩)
    (c_Up_adjust : PySem.W.codeIn K cd_Up_adjust "Up.adjust" = true)
    (k_Up_adjust : PySem.W.keepIn K (.ref f_Up_adjust) = true)
    (ma_Up_adjust : PySem.W.findIn K (.ref K_Up) "adjust" = some (some (.ref f_Up_adjust)))
    (mf_Up_adjust : PySem.W.isFn K (.ref f_Up_adjust) = true)
    (l_Way_adjust : K.lookup f_Way_adjust = some ⟨oc_Way_adjust, od_Way_adjust, .func (PySem.W.fnOf "adjust" "Way.adjust" (defArgs s_Way_adjust) (defBody s_Way_adjust) (defScope s_Way_adjust) .none kV_Way_adjust dc_Way_adjust pm_Way_adjust an_Way_adjust cd_Way_adjust ct_Way_adjust), sl_Way_adjust⟩)
    (c_Way_adjust : PySem.W.codeIn K cd_Way_adjust "Way.adjust" = true)
    (k_Way_adjust : PySem.W.keepIn K (.ref f_Way_adjust) = true)
    (ma_Cut_adjust : PySem.W.findIn K (.ref K_Cut) "adjust" = some (some (.ref f_Way_adjust)))
    (mf_Cut_adjust : PySem.W.isFn K (.ref f_Way_adjust) = true)
    (l_Near_adjust : K.lookup f_Near_adjust = some ⟨oc_Near_adjust, od_Near_adjust, .func (PySem.W.fnOf "adjust" "Near.adjust" (defArgs s_Near_adjust) (defBody s_Near_adjust) (defScope s_Near_adjust) .none kV_Near_adjust dc_Near_adjust pm_Near_adjust an_Near_adjust cd_Near_adjust ct_Near_adjust), sl_Near_adjust⟩)
    (c_Near_adjust : PySem.W.codeIn K cd_Near_adjust "Near.adjust" = true)
    (k_Near_adjust : PySem.W.keepIn K (.ref f_Near_adjust) = true)
    (ma_Near_adjust : PySem.W.findIn K (.ref K_Near) "adjust" = some (some (.ref f_Near_adjust)))
    (mf_Near_adjust : PySem.W.isFn K (.ref f_Near_adjust) = true)
    (l_Way_rounded : K.lookup f_Way_rounded = some ⟨oc_Way_rounded, od_Way_rounded, .func (PySem.W.fnOf "rounded" "Way.rounded" (defArgs s_Way_rounded) (defBody s_Way_rounded) (defScope s_Way_rounded) .none kV_Way_rounded dc_Way_rounded pm_Way_rounded an_Way_rounded cd_Way_rounded ct_Way_rounded), sl_Way_rounded⟩)
    (c_Way_rounded : PySem.W.codeIn K cd_Way_rounded "Way.rounded" = true)
    (k_Way_rounded : PySem.W.keepIn K (.ref f_Way_rounded) = true)
    (ma_Cut_rounded : PySem.W.findIn K (.ref K_Cut) "rounded" = some (some (.ref f_Way_rounded)))
    (mf_Cut_rounded : PySem.W.isFn K (.ref f_Way_rounded) = true)
    (ma_Down_rounded : PySem.W.findIn K (.ref K_Down) "rounded" = some (some (.ref f_Way_rounded)))
    (mf_Down_rounded : PySem.W.isFn K (.ref f_Way_rounded) = true)
    (ma_Near_rounded : PySem.W.findIn K (.ref K_Near) "rounded" = some (some (.ref f_Way_rounded)))
    (mf_Near_rounded : PySem.W.isFn K (.ref f_Way_rounded) = true)
    (ma_Up_rounded : PySem.W.findIn K (.ref K_Up) "rounded" = some (some (.ref f_Way_rounded)))
    (mf_Up_rounded : PySem.W.isFn K (.ref f_Way_rounded) = true)
    (l_Plain_least : K.lookup f_Plain_least = some ⟨oc_Plain_least, od_Plain_least, .func (PySem.W.fnOf "least" "Plain.least" (defArgs s_Plain_least) (defBody s_Plain_least) (defScope s_Plain_least) .none kV_Plain_least dc_Plain_least pm_Plain_least an_Plain_least cd_Plain_least ct_Plain_least), sl_Plain_least⟩)
    (c_Plain_least : PySem.W.codeIn K cd_Plain_least "Plain.least" = true)
    (k_Plain_least : PySem.W.keepIn K (.ref f_Plain_least) = true)
    (ma_Plain_least : PySem.W.findIn K (.ref K_Plain) "least" = some (some (.ref f_Plain_least)))
    (mf_Plain_least : PySem.W.isFn K (.ref f_Plain_least) = true)
    (l_Kind_least : K.lookup f_Kind_least = some ⟨oc_Kind_least, od_Kind_least, .func (PySem.W.fnOf "least" "Kind.least" (defArgs s_Kind_least) (defBody s_Kind_least) (defScope s_Kind_least) .none kV_Kind_least dc_Kind_least pm_Kind_least an_Kind_least cd_Kind_least ct_Kind_least), sl_Kind_least⟩)
    (c_Kind_least : PySem.W.codeIn K cd_Kind_least "Kind.least" = true)
    (k_Kind_least : PySem.W.keepIn K (.ref f_Kind_least) = true)
    (ma_Pointed_least : PySem.W.findIn K (.ref K_Pointed) "least" = some (some (.ref f_Kind_least)))
    (mf_Pointed_least : PySem.W.isFn K (.ref f_Kind_least) = true)
    (ma_Signed_least : PySem.W.findIn K (.ref K_Signed) "least" = some (some (.ref f_Kind_least)))
    (mf_Signed_least : PySem.W.isFn K (.ref f_Kind_least) = true)
    (l_Plain_greatest : K.lookup f_Plain_greatest = some ⟨oc_Plain_greatest, od_Plain_greatest, .func (PySem.W.fnOf "greatest" "Plain.greatest" (defArgs s_Plain_greatest) (defBody s_Plain_greatest) (defScope s_Plain_greatest) .none kV_Plain_greatest dc_Plain_greatest pm_Plain_greatest an_Plain_greatest cd_Plain_greatest ct_Plain_greatest), sl_Plain_greatest⟩)
    (c_Plain_greatest : PySem.W.codeIn K cd_Plain_greatest "Plain.greatest" = true)
    (k_Plain_greatest : PySem.W.keepIn K (.ref f_Plain_greatest) = true)
    (ma_Plain_greatest : PySem.W.findIn K (.ref K_Plain) "greatest" = some (some (.ref f_Plain_greatest)))
    (mf_Plain_greatest : PySem.W.isFn K (.ref f_Plain_greatest) = true)
    (l_Kind_greatest : K.lookup f_Kind_greatest = some ⟨oc_Kind_greatest, od_Kind_greatest, .func (PySem.W.fnOf "greatest" "Kind.greatest" (defArgs s_Kind_greatest) (defBody s_Kind_greatest) (defScope s_Kind_greatest) .none kV_Kind_greatest dc_Kind_greatest pm_Kind_greatest an_Kind_greatest cd_Kind_greatest ct_Kind_greatest), sl_Kind_greatest⟩)
    (c_Kind_greatest : PySem.W.codeIn K cd_Kind_greatest "Kind.greatest" = true)
    (k_Kind_greatest : PySem.W.keepIn K (.ref f_Kind_greatest) = true)
    (ma_Pointed_greatest : PySem.W.findIn K (.ref K_Pointed) "greatest" = some (some (.ref f_Kind_greatest)))
    (mf_Pointed_greatest : PySem.W.isFn K (.ref f_Kind_greatest) = true)
    (ma_Signed_greatest : PySem.W.findIn K (.ref K_Signed) "greatest" = some (some (.ref f_Kind_greatest)))
    (mf_Signed_greatest : PySem.W.isFn K (.ref f_Kind_greatest) = true)
    (l_Kind_is_count : K.lookup f_Kind_is_count = some ⟨oc_Kind_is_count, od_Kind_is_count, .func (PySem.W.fnOf "is_count" "Kind.is_count" (defArgs s_Kind_is_count) (defBody s_Kind_is_count) (defScope s_Kind_is_count) .none kV_Kind_is_count dc_Kind_is_count pm_Kind_is_count an_Kind_is_count cd_Kind_is_count ct_Kind_is_count), sl_Kind_is_count⟩)
    (c_Kind_is_count : PySem.W.codeIn K cd_Kind_is_count "Kind.is_count" = true)
    (k_Kind_is_count : PySem.W.keepIn K (.ref f_Kind_is_count) = true)
    (ma_Plain_is_count : PySem.W.findIn K (.ref K_Plain) "is_count" = some (some (.ref f_Kind_is_count)))
    (mf_Plain_is_count : PySem.W.isFn K (.ref f_Kind_is_count) = true)
    (ma_Pointed_is_count : PySem.W.findIn K (.ref K_Pointed) "is_count" = some (some (.ref f_Kind_is_count)))
    (mf_Pointed_is_count : PySem.W.isFn K (.ref f_Kind_is_count) = true)
    (ma_Signed_is_count : PySem.W.findIn K (.ref K_Signed) "is_count" = some (some (.ref f_Kind_is_count)))
    (mf_Signed_is_count : PySem.W.isFn K (.ref f_Kind_is_count) = true)
    (l_Kind_bits_of : K.lookup f_Kind_bits_of = some ⟨oc_Kind_bits_of, od_Kind_bits_of, .func (PySem.W.fnOf "bits_of" "Kind.bits_of" (defArgs s_Kind_bits_of) (defBody s_Kind_bits_of) (defScope s_Kind_bits_of) .none kV_Kind_bits_of dc_Kind_bits_of pm_Kind_bits_of an_Kind_bits_of cd_Kind_bits_of ct_Kind_bits_of), sl_Kind_bits_of⟩)
    (c_Kind_bits_of : PySem.W.codeIn K cd_Kind_bits_of "Kind.bits_of" = true)
    (k_Kind_bits_of : PySem.W.keepIn K (.ref f_Kind_bits_of) = true)
    (ma_Plain_bits_of : PySem.W.findIn K (.ref K_Plain) "bits_of" = some (some (.ref f_Kind_bits_of)))
    (mf_Plain_bits_of : PySem.W.isFn K (.ref f_Kind_bits_of) = true)
    (ma_Pointed_bits_of : PySem.W.findIn K (.ref K_Pointed) "bits_of" = some (some (.ref f_Kind_bits_of)))
    (mf_Pointed_bits_of : PySem.W.isFn K (.ref f_Kind_bits_of) = true)
    (ma_Signed_bits_of : PySem.W.findIn K (.ref K_Signed) "bits_of" = some (some (.ref f_Kind_bits_of)))
    (mf_Signed_bits_of : PySem.W.isFn K (.ref f_Kind_bits_of) = true)
    (l_Kind_stop_at : K.lookup f_Kind_stop_at = some ⟨oc_Kind_stop_at, od_Kind_stop_at, .func (PySem.W.fnOf "stop_at" "Kind.stop_at" (defArgs s_Kind_stop_at) (defBody s_Kind_stop_at) (defScope s_Kind_stop_at) .none kV_Kind_stop_at dc_Kind_stop_at pm_Kind_stop_at an_Kind_stop_at cd_Kind_stop_at ct_Kind_stop_at), sl_Kind_stop_at⟩)
    (c_Kind_stop_at : PySem.W.codeIn K cd_Kind_stop_at "Kind.stop_at" = true)
    (k_Kind_stop_at : PySem.W.keepIn K (.ref f_Kind_stop_at) = true)
    (ma_Plain_stop_at : PySem.W.findIn K (.ref K_Plain) "stop_at" = some (some (.ref f_Kind_stop_at)))
    (mf_Plain_stop_at : PySem.W.isFn K (.ref f_Kind_stop_at) = true)
    (ma_Pointed_stop_at : PySem.W.findIn K (.ref K_Pointed) "stop_at" = some (some (.ref f_Kind_stop_at)))
    (mf_Pointed_stop_at : PySem.W.isFn K (.ref f_Kind_stop_at) = true)
    (ma_Signed_stop_at : PySem.W.findIn K (.ref K_Signed) "stop_at" = some (some (.ref f_Kind_stop_at)))
    (mf_Signed_stop_at : PySem.W.isFn K (.ref f_Kind_stop_at) = true)
    (l_Kind_go_round : K.lookup f_Kind_go_round = some ⟨oc_Kind_go_round, od_Kind_go_round, .func (PySem.W.fnOf "go_round" "Kind.go_round" (defArgs s_Kind_go_round) (defBody s_Kind_go_round) (defScope s_Kind_go_round) .none kV_Kind_go_round dc_Kind_go_round pm_Kind_go_round an_Kind_go_round cd_Kind_go_round ct_Kind_go_round), sl_Kind_go_round⟩)
    (c_Kind_go_round : PySem.W.codeIn K cd_Kind_go_round "Kind.go_round" = true)
    (k_Kind_go_round : PySem.W.keepIn K (.ref f_Kind_go_round) = true)
    (ma_Plain_go_round : PySem.W.findIn K (.ref K_Plain) "go_round" = some (some (.ref f_Kind_go_round)))
    (mf_Plain_go_round : PySem.W.isFn K (.ref f_Kind_go_round) = true)
    (ma_Pointed_go_round : PySem.W.findIn K (.ref K_Pointed) "go_round" = some (some (.ref f_Kind_go_round)))
    (mf_Pointed_go_round : PySem.W.isFn K (.ref f_Kind_go_round) = true)
    (ma_Signed_go_round : PySem.W.findIn K (.ref K_Signed) "go_round" = some (some (.ref f_Kind_go_round)))
    (mf_Signed_go_round : PySem.W.isFn K (.ref f_Kind_go_round) = true)
    (a_into : PySem.W.nsIn K mainGlobals "into" = some (some (.ref f_into)))
    (l_into : K.lookup f_into = some ⟨oc_into, od_into, .func (PySem.W.fnOf "into" "into" (defArgs s_into) (defBody s_into) (defScope s_into) .none kV_into dc_into pm_into an_into cd_into ct_into), sl_into⟩)
    (c_into : PySem.W.codeIn K cd_into "into" = true)
    (k_into : PySem.W.keepIn K (.ref f_into) = true)
    (a_l_whole : PySem.W.nsIn K mainGlobals "_law_whole" = some (some (.ref f_l_whole)))
    (l_l_whole : K.lookup f_l_whole = some ⟨oc_l_whole, od_l_whole, .func (PySem.W.fnOf "_law_whole" "_law_whole" (defArgs s_l_whole) (defBody s_l_whole) (defScope s_l_whole) .none kV_l_whole dc_l_whole pm_l_whole an_l_whole cd_l_whole ct_l_whole), sl_l_whole⟩)
    (c_l_whole : PySem.W.codeIn K cd_l_whole "_law_whole" = true)
    (k_l_whole : PySem.W.keepIn K (.ref f_l_whole) = true)
    (a_l_good : PySem.W.nsIn K mainGlobals "_law_good" = some (some (.ref f_l_good)))
    (l_l_good : K.lookup f_l_good = some ⟨oc_l_good, od_l_good, .func (PySem.W.fnOf "_law_good" "_law_good" (defArgs s_l_good) (defBody s_l_good) (defScope s_l_good) .none kV_l_good dc_l_good pm_l_good an_l_good cd_l_good ct_l_good), sl_l_good⟩)
    (c_l_good : PySem.W.codeIn K cd_l_good "_law_good" = true)
    (k_l_good : PySem.W.keepIn K (.ref f_l_good) = true)
    (a_l_due : PySem.W.nsIn K mainGlobals "_law_due" = some (some (.ref f_l_due)))
    (l_l_due : K.lookup f_l_due = some ⟨oc_l_due, od_l_due, .func (PySem.W.fnOf "_law_due" "_law_due" (defArgs s_l_due) (defBody s_l_due) (defScope s_l_due) .none kV_l_due dc_l_due pm_l_due an_l_due cd_l_due ct_l_due), sl_l_due⟩)
    (c_l_due : PySem.W.codeIn K cd_l_due "_law_due" = true)
    (k_l_due : PySem.W.keepIn K (.ref f_l_due) = true)
    (a_l_one : PySem.W.nsIn K mainGlobals "_law_one" = some (some (.ref f_l_one)))
    (l_l_one : K.lookup f_l_one = some ⟨oc_l_one, od_l_one, .func (PySem.W.fnOf "_law_one" "_law_one" (defArgs s_l_one) (defBody s_l_one) (defScope s_l_one) .none kV_l_one dc_l_one pm_l_one an_l_one cd_l_one ct_l_one), sl_l_one⟩)
    (c_l_one : PySem.W.codeIn K cd_l_one "_law_one" = true)
    (k_l_one : PySem.W.keepIn K (.ref f_l_one) = true)
    (a_l_cell : PySem.W.nsIn K mainGlobals "_law_cell" = some (some (.ref f_l_cell)))
    (l_l_cell : K.lookup f_l_cell = some ⟨oc_l_cell, od_l_cell, .func (PySem.W.fnOf "_law_cell" "_law_cell" (defArgs s_l_cell) (defBody s_l_cell) (defScope s_l_cell) .none kV_l_cell dc_l_cell pm_l_cell an_l_cell cd_l_cell ct_l_cell), sl_l_cell⟩)
    (c_l_cell : PySem.W.codeIn K cd_l_cell "_law_cell" = true)
    (k_l_cell : PySem.W.keepIn K (.ref f_l_cell) = true)
    (a_law : PySem.W.nsIn K mainGlobals "law" = some (some (.ref f_law)))
    (l_law : K.lookup f_law = some ⟨oc_law, od_law, .func (PySem.W.fnOf "law" "law" (defArgs s_law) (defBody s_law) (defScope s_law) .none kV_law dc_law pm_law an_law cd_law ct_law), sl_law⟩)
    (c_law : PySem.W.codeIn K cd_law "law" = true)
    (k_law : PySem.W.keepIn K (.ref f_law) = true)
    (km_Plain : PySem.W.makesIn K K_Plain = true)
    (kin_Plain : PySem.W.findIn K (.ref K_Plain) "__init__" = some (some (.ref f_Plain___init__)))
    (kif_Plain : PySem.W.isFn K (.ref f_Plain___init__) = true)
    (kk_Plain : PySem.W.keepIn K (.ref K_Plain) = true)
    (km_Pointed : PySem.W.makesIn K K_Pointed = true)
    (kin_Pointed : PySem.W.findIn K (.ref K_Pointed) "__init__" = some (some (.ref f_Pointed___init__)))
    (kif_Pointed : PySem.W.isFn K (.ref f_Pointed___init__) = true)
    (kk_Pointed : PySem.W.keepIn K (.ref K_Pointed) = true)
    (km_Signed : PySem.W.makesIn K K_Signed = true)
    (kin_Signed : PySem.W.findIn K (.ref K_Signed) "__init__" = some (some (.ref f_Signed___init__)))
    (kif_Signed : PySem.W.isFn K (.ref f_Signed___init__) = true)
    (kk_Signed : PySem.W.keepIn K (.ref K_Signed) = true)
    (ct_Kind___init__ : PySem.W.typeIn K (.ref K_Kind) = some mcc_Kind___init__)
    (cr_Kind___init__ : PySem.W.readsIn K K_Kind mcc_Kind___init__ = true)
    (cg_Kind___init__ : PySem.W.specialIn K (.ref K_Kind) "__getattribute__" = some (some (.builtin "type.__getattribute__")))
    (cv_Kind___init__ : PySem.W.findCls K (.ref K_Kind) mcc_Kind___init__ "__init__" = some (.val (.ref f_Kind___init__)))
    (ag_LEAST_WIDTH : PySem.W.nsIn K mainGlobals "LEAST_WIDTH" = some (some (.int 4 tk_LEAST_WIDTH)))
    (ag_GREATEST_WIDTH : PySem.W.nsIn K mainGlobals "GREATEST_WIDTH" = some (some (.int 32 tk_GREATEST_WIDTH)))
    (zz_isinstance : PySem.W.nsIn K mainGlobals "isinstance" = some none)
    (zz_str : PySem.W.nsIn K mainGlobals "str" = some none)
    (zz_bool : PySem.W.nsIn K mainGlobals "bool" = some none)
    (zz_int : PySem.W.nsIn K mainGlobals "int" = some none)
    (zz_abs : PySem.W.nsIn K mainGlobals "abs" = some none)
    (zz_divmod : PySem.W.nsIn K mainGlobals "divmod" = some none)
    (zz_max : PySem.W.nsIn K mainGlobals "max" = some none)
    (zz_min : PySem.W.nsIn K mainGlobals "min" = some none)
    (zz_len : PySem.W.nsIn K mainGlobals "len" = some none)
    (zz_tuple : PySem.W.nsIn K mainGlobals "tuple" = some none)
    (zz_range : PySem.W.nsIn K mainGlobals "range" = some none) : Tx K mg where
  k_Cut := ⟨K_Cut, PySem.W.mg_of X G ak_Cut, ⟨kp_Cut, kh_Cut, ko_Cut, ks_Cut⟩⟩
  k_Down := ⟨K_Down, PySem.W.mg_of X G ak_Down, ⟨kp_Down, kh_Down, ko_Down, ks_Down⟩⟩
  k_Kind := ⟨K_Kind, PySem.W.mg_of X G ak_Kind, ⟨kp_Kind, kh_Kind, ko_Kind, ks_Kind⟩⟩
  k_Near := ⟨K_Near, PySem.W.mg_of X G ak_Near, ⟨kp_Near, kh_Near, ko_Near, ks_Near⟩⟩
  k_Plain := ⟨K_Plain, PySem.W.mg_of X G ak_Plain, ⟨kp_Plain, kh_Plain, ko_Plain, ks_Plain⟩⟩
  k_Pointed := ⟨K_Pointed, PySem.W.mg_of X G ak_Pointed, ⟨kp_Pointed, kh_Pointed, ko_Pointed, ks_Pointed⟩⟩
  k_Signed := ⟨K_Signed, PySem.W.mg_of X G ak_Signed, ⟨kp_Signed, kh_Signed, ko_Signed, ks_Signed⟩⟩
  k_Up := ⟨K_Up, PySem.W.mg_of X G ak_Up, ⟨kp_Up, kh_Up, ko_Up, ks_Up⟩⟩
  m0_Cut := ⟨km_Cut, ki_Cut, kt_Cut, kk_Cut⟩
  m0_Down := ⟨km_Down, ki_Down, kt_Down, kk_Down⟩
  m0_Near := ⟨km_Near, ki_Near, kt_Near, kk_Near⟩
  m0_Up := ⟨km_Up, ki_Up, kt_Up, kk_Up⟩
  na_Plain_point := nah_Plain_point
  na_Plain_width := nah_Plain_width
  na_Pointed_point := nah_Pointed_point
  na_Pointed_width := nah_Pointed_width
  na_Signed_point := nah_Signed_point
  na_Signed_width := nah_Signed_width
  d_all_ways := ⟨f_all_ways, _, fun_mk (st := s_all_ways) l_all_ways c_all_ways k_all_ways, (fun_mk (st := s_all_ways) l_all_ways c_all_ways k_all_ways).binds fun _ _ _ _ _ _ us hl => match us, hl with | [], _ => rfl, PySem.W.mg_of X G a_all_ways⟩
  d_way_of := ⟨f_way_of, _, fun_mk (st := s_way_of) l_way_of c_way_of k_way_of, (fun_mk (st := s_way_of) l_way_of c_way_of k_way_of).binds fun _ _ _ _ _ _ us hl => match us, hl with | [_], _ => rfl, PySem.W.mg_of X G a_way_of⟩
  d_l_begun := ⟨f_l_begun, _, fun_mk (st := s_l_begun) l_l_begun c_l_begun k_l_begun, (fun_mk (st := s_l_begun) l_l_begun c_l_begun k_l_begun).binds fun _ _ _ _ _ _ us hl => match us, hl with | [_], _ => rfl, PySem.W.mg_of X G a_l_begun⟩
  d_l_draw := ⟨f_l_draw, _, fun_mk (st := s_l_draw) l_l_draw c_l_draw k_l_draw, (fun_mk (st := s_l_draw) l_l_draw c_l_draw k_l_draw).binds fun _ _ _ _ _ _ us hl => match us, hl with | [_, _], _ => rfl, PySem.W.mg_of X G a_l_draw⟩
  d_l_number := ⟨f_l_number, _, fun_mk (st := s_l_number) l_l_number c_l_number k_l_number, (fun_mk (st := s_l_number) l_l_number c_l_number k_l_number).binds fun _ _ _ _ _ _ us hl => match us, hl with | [_], _ => rfl, PySem.W.mg_of X G a_l_number⟩
  d_l_top := ⟨f_l_top, _, fun_mk (st := s_l_top) l_l_top c_l_top k_l_top, (fun_mk (st := s_l_top) l_l_top c_l_top k_l_top).binds fun _ _ _ _ _ _ us hl => match us, hl with | [_, _, _], _ => rfl, PySem.W.mg_of X G a_l_top⟩
  d_is_whole := ⟨f_is_whole, _, fun_mk (st := s_is_whole) l_is_whole c_is_whole k_is_whole, (fun_mk (st := s_is_whole) l_is_whole c_is_whole k_is_whole).binds fun _ _ _ _ _ _ us hl => match us, hl with | [_], _ => rfl, PySem.W.mg_of X G a_is_whole⟩
  d_need_width := ⟨f_need_width, _, fun_mk (st := s_need_width) l_need_width c_need_width k_need_width, (fun_mk (st := s_need_width) l_need_width c_need_width k_need_width).binds fun _ _ _ _ _ _ us hl => match us, hl with | [_], _ => rfl, PySem.W.mg_of X G a_need_width⟩
  d_Kind___init__ := ⟨f_Kind___init__, _, fun_mk (st := s_Kind___init__) l_Kind___init__ c_Kind___init__ k_Kind___init__, (fun_mk (st := s_Kind___init__) l_Kind___init__ c_Kind___init__ k_Kind___init__).binds fun _ _ _ _ _ _ us hl => match us, hl with | [_, _, _], _ => rfl⟩
  d_Pointed___init__ := ⟨f_Pointed___init__, _, fun_mk (st := s_Pointed___init__) l_Pointed___init__ c_Pointed___init__ k_Pointed___init__, (fun_mk (st := s_Pointed___init__) l_Pointed___init__ c_Pointed___init__ k_Pointed___init__).binds fun _ _ _ _ _ _ us hl => match us, hl with | [_, _, _], _ => rfl⟩
  d_Plain___init__ := ⟨f_Plain___init__, _, fun_mk (st := s_Plain___init__) l_Plain___init__ c_Plain___init__ k_Plain___init__, (fun_mk (st := s_Plain___init__) l_Plain___init__ c_Plain___init__ k_Plain___init__).binds fun _ _ _ _ _ _ us hl => match us, hl with | [_, _], _ => rfl⟩
  d_Signed___init__ := ⟨f_Signed___init__, _, fun_mk (st := s_Signed___init__) l_Signed___init__ c_Signed___init__ k_Signed___init__, (fun_mk (st := s_Signed___init__) l_Signed___init__ c_Signed___init__ k_Signed___init__).binds fun _ _ _ _ _ _ us hl => match us, hl with | [_, _], _ => rfl⟩
  d_l_kind := ⟨f_l_kind, _, fun_mk (st := s_l_kind) l_l_kind c_l_kind k_l_kind, (fun_mk (st := s_l_kind) l_l_kind c_l_kind k_l_kind).binds fun _ _ _ _ _ _ us hl => match us, hl with | [_, _, _], _ => rfl, PySem.W.mg_of X G a_l_kind⟩
  d_l_ends := ⟨f_l_ends, _, fun_mk (st := s_l_ends) l_l_ends c_l_ends k_l_ends, (fun_mk (st := s_l_ends) l_l_ends c_l_ends k_l_ends).binds fun _ _ _ _ _ _ us hl => match us, hl with | [_, _], _ => rfl, PySem.W.mg_of X G a_l_ends⟩
  d_l_right := ⟨f_l_right, _, fun_mk (st := s_l_right) l_l_right c_l_right k_l_right, (fun_mk (st := s_l_right) l_l_right c_l_right k_l_right).binds fun _ _ _ _ _ _ us hl => match us, hl with | [_, _, _, _], _ => rfl, PySem.W.mg_of X G a_l_right⟩
  d_l_whole_of := ⟨f_l_whole_of, _, fun_mk (st := s_l_whole_of) l_l_whole_of c_l_whole_of k_l_whole_of, (fun_mk (st := s_l_whole_of) l_l_whole_of c_l_whole_of k_l_whole_of).binds fun _ _ _ _ _ _ us hl => match us, hl with | [_, _, _], _ => rfl, PySem.W.mg_of X G a_l_whole_of⟩
  d_Down_adjust := ⟨f_Down_adjust, _, fun_mk (st := s_Down_adjust) l_Down_adjust c_Down_adjust k_Down_adjust, (fun_mk (st := s_Down_adjust) l_Down_adjust c_Down_adjust k_Down_adjust).binds fun _ _ _ _ _ _ us hl => match us, hl with | [_, _, _, _, _], _ => rfl⟩
  mt_Down_adjust := ⟨ma_Down_adjust, mf_Down_adjust, k_Down_adjust⟩
  d_Up_adjust := ⟨f_Up_adjust, _, fun_mk (st := s_Up_adjust) l_Up_adjust c_Up_adjust k_Up_adjust, (fun_mk (st := s_Up_adjust) l_Up_adjust c_Up_adjust k_Up_adjust).binds fun _ _ _ _ _ _ us hl => match us, hl with | [_, _, _, _, _], _ => rfl⟩
  mt_Up_adjust := ⟨ma_Up_adjust, mf_Up_adjust, k_Up_adjust⟩
  d_Way_adjust := ⟨f_Way_adjust, _, fun_mk (st := s_Way_adjust) l_Way_adjust c_Way_adjust k_Way_adjust, (fun_mk (st := s_Way_adjust) l_Way_adjust c_Way_adjust k_Way_adjust).binds fun _ _ _ _ _ _ us hl => match us, hl with | [_, _, _, _, _], _ => rfl⟩
  mt_Cut_adjust := ⟨ma_Cut_adjust, mf_Cut_adjust, k_Way_adjust⟩
  d_Near_adjust := ⟨f_Near_adjust, _, fun_mk (st := s_Near_adjust) l_Near_adjust c_Near_adjust k_Near_adjust, (fun_mk (st := s_Near_adjust) l_Near_adjust c_Near_adjust k_Near_adjust).binds fun _ _ _ _ _ _ us hl => match us, hl with | [_, _, _, _, _], _ => rfl⟩
  mt_Near_adjust := ⟨ma_Near_adjust, mf_Near_adjust, k_Near_adjust⟩
  d_Way_rounded := ⟨f_Way_rounded, _, fun_mk (st := s_Way_rounded) l_Way_rounded c_Way_rounded k_Way_rounded, (fun_mk (st := s_Way_rounded) l_Way_rounded c_Way_rounded k_Way_rounded).binds fun _ _ _ _ _ _ us hl => match us, hl with | [_, _, _], _ => rfl⟩
  mt_Cut_rounded := ⟨ma_Cut_rounded, mf_Cut_rounded, k_Way_rounded⟩
  mt_Down_rounded := ⟨ma_Down_rounded, mf_Down_rounded, k_Way_rounded⟩
  mt_Near_rounded := ⟨ma_Near_rounded, mf_Near_rounded, k_Way_rounded⟩
  mt_Up_rounded := ⟨ma_Up_rounded, mf_Up_rounded, k_Way_rounded⟩
  d_Plain_least := ⟨f_Plain_least, _, fun_mk (st := s_Plain_least) l_Plain_least c_Plain_least k_Plain_least, (fun_mk (st := s_Plain_least) l_Plain_least c_Plain_least k_Plain_least).binds fun _ _ _ _ _ _ us hl => match us, hl with | [_], _ => rfl⟩
  mt_Plain_least := ⟨ma_Plain_least, mf_Plain_least, k_Plain_least⟩
  d_Kind_least := ⟨f_Kind_least, _, fun_mk (st := s_Kind_least) l_Kind_least c_Kind_least k_Kind_least, (fun_mk (st := s_Kind_least) l_Kind_least c_Kind_least k_Kind_least).binds fun _ _ _ _ _ _ us hl => match us, hl with | [_], _ => rfl⟩
  mt_Pointed_least := ⟨ma_Pointed_least, mf_Pointed_least, k_Kind_least⟩
  mt_Signed_least := ⟨ma_Signed_least, mf_Signed_least, k_Kind_least⟩
  d_Plain_greatest := ⟨f_Plain_greatest, _, fun_mk (st := s_Plain_greatest) l_Plain_greatest c_Plain_greatest k_Plain_greatest, (fun_mk (st := s_Plain_greatest) l_Plain_greatest c_Plain_greatest k_Plain_greatest).binds fun _ _ _ _ _ _ us hl => match us, hl with | [_], _ => rfl⟩
  mt_Plain_greatest := ⟨ma_Plain_greatest, mf_Plain_greatest, k_Plain_greatest⟩
  d_Kind_greatest := ⟨f_Kind_greatest, _, fun_mk (st := s_Kind_greatest) l_Kind_greatest c_Kind_greatest k_Kind_greatest, (fun_mk (st := s_Kind_greatest) l_Kind_greatest c_Kind_greatest k_Kind_greatest).binds fun _ _ _ _ _ _ us hl => match us, hl with | [_], _ => rfl⟩
  mt_Pointed_greatest := ⟨ma_Pointed_greatest, mf_Pointed_greatest, k_Kind_greatest⟩
  mt_Signed_greatest := ⟨ma_Signed_greatest, mf_Signed_greatest, k_Kind_greatest⟩
  d_Kind_is_count := ⟨f_Kind_is_count, _, fun_mk (st := s_Kind_is_count) l_Kind_is_count c_Kind_is_count k_Kind_is_count, (fun_mk (st := s_Kind_is_count) l_Kind_is_count c_Kind_is_count k_Kind_is_count).binds fun _ _ _ _ _ _ us hl => match us, hl with | [_, _], _ => rfl⟩
  mt_Plain_is_count := ⟨ma_Plain_is_count, mf_Plain_is_count, k_Kind_is_count⟩
  mt_Pointed_is_count := ⟨ma_Pointed_is_count, mf_Pointed_is_count, k_Kind_is_count⟩
  mt_Signed_is_count := ⟨ma_Signed_is_count, mf_Signed_is_count, k_Kind_is_count⟩
  d_Kind_bits_of := ⟨f_Kind_bits_of, _, fun_mk (st := s_Kind_bits_of) l_Kind_bits_of c_Kind_bits_of k_Kind_bits_of, (fun_mk (st := s_Kind_bits_of) l_Kind_bits_of c_Kind_bits_of k_Kind_bits_of).binds fun _ _ _ _ _ _ us hl => match us, hl with | [_, _], _ => rfl⟩
  mt_Plain_bits_of := ⟨ma_Plain_bits_of, mf_Plain_bits_of, k_Kind_bits_of⟩
  mt_Pointed_bits_of := ⟨ma_Pointed_bits_of, mf_Pointed_bits_of, k_Kind_bits_of⟩
  mt_Signed_bits_of := ⟨ma_Signed_bits_of, mf_Signed_bits_of, k_Kind_bits_of⟩
  d_Kind_stop_at := ⟨f_Kind_stop_at, _, fun_mk (st := s_Kind_stop_at) l_Kind_stop_at c_Kind_stop_at k_Kind_stop_at, (fun_mk (st := s_Kind_stop_at) l_Kind_stop_at c_Kind_stop_at k_Kind_stop_at).binds fun _ _ _ _ _ _ us hl => match us, hl with | [_, _], _ => rfl⟩
  mt_Plain_stop_at := ⟨ma_Plain_stop_at, mf_Plain_stop_at, k_Kind_stop_at⟩
  mt_Pointed_stop_at := ⟨ma_Pointed_stop_at, mf_Pointed_stop_at, k_Kind_stop_at⟩
  mt_Signed_stop_at := ⟨ma_Signed_stop_at, mf_Signed_stop_at, k_Kind_stop_at⟩
  d_Kind_go_round := ⟨f_Kind_go_round, _, fun_mk (st := s_Kind_go_round) l_Kind_go_round c_Kind_go_round k_Kind_go_round, (fun_mk (st := s_Kind_go_round) l_Kind_go_round c_Kind_go_round k_Kind_go_round).binds fun _ _ _ _ _ _ us hl => match us, hl with | [_, _], _ => rfl⟩
  mt_Plain_go_round := ⟨ma_Plain_go_round, mf_Plain_go_round, k_Kind_go_round⟩
  mt_Pointed_go_round := ⟨ma_Pointed_go_round, mf_Pointed_go_round, k_Kind_go_round⟩
  mt_Signed_go_round := ⟨ma_Signed_go_round, mf_Signed_go_round, k_Kind_go_round⟩
  d_into := ⟨f_into, _, fun_mk (st := s_into) l_into c_into k_into, (fun_mk (st := s_into) l_into c_into k_into).binds fun _ _ _ _ _ _ us hl => match us, hl with | [_, _, _, _, _], _ => rfl, PySem.W.mg_of X G a_into⟩
  d_l_whole := ⟨f_l_whole, _, fun_mk (st := s_l_whole) l_l_whole c_l_whole k_l_whole, (fun_mk (st := s_l_whole) l_l_whole c_l_whole k_l_whole).binds fun _ _ _ _ _ _ us hl => match us, hl with | [_], _ => rfl, PySem.W.mg_of X G a_l_whole⟩
  d_l_good := ⟨f_l_good, _, fun_mk (st := s_l_good) l_l_good c_l_good k_l_good, (fun_mk (st := s_l_good) l_l_good c_l_good k_l_good).binds fun _ _ _ _ _ _ us hl => match us, hl with | [_, _], _ => rfl, PySem.W.mg_of X G a_l_good⟩
  d_l_due := ⟨f_l_due, _, fun_mk (st := s_l_due) l_l_due c_l_due k_l_due, (fun_mk (st := s_l_due) l_l_due c_l_due k_l_due).binds fun _ _ _ _ _ _ us hl => match us, hl with | [_, _, _, _], _ => rfl, PySem.W.mg_of X G a_l_due⟩
  d_l_one := ⟨f_l_one, _, fun_mk (st := s_l_one) l_l_one c_l_one k_l_one, (fun_mk (st := s_l_one) l_l_one c_l_one k_l_one).binds fun _ _ _ _ _ _ us hl => match us, hl with | [_, _], _ => rfl, PySem.W.mg_of X G a_l_one⟩
  d_l_cell := ⟨f_l_cell, _, fun_mk (st := s_l_cell) l_l_cell c_l_cell k_l_cell, (fun_mk (st := s_l_cell) l_l_cell c_l_cell k_l_cell).binds fun _ _ _ _ _ _ us hl => match us, hl with | [_, _], _ => rfl, PySem.W.mg_of X G a_l_cell⟩
  d_law := ⟨f_law, _, fun_mk (st := s_law) l_law c_law k_law, (fun_mk (st := s_law) l_law c_law k_law).binds fun _ _ _ _ _ _ us hl => match us, hl with | [_], _ => rfl, PySem.W.mg_of X G a_law⟩
  mk_Plain := ⟨km_Plain, kin_Plain, kif_Plain, kk_Plain⟩
  mk_Pointed := ⟨km_Pointed, kin_Pointed, kif_Pointed, kk_Pointed⟩
  mk_Signed := ⟨km_Signed, kin_Signed, kif_Signed, kk_Signed⟩
  cc_Kind___init__ := ⟨mcc_Kind___init__, ⟨cr_Kind___init__, cg_Kind___init__⟩, cv_Kind___init__⟩
  g_LEAST_WIDTH := ⟨_, PySem.W.mg_of X G ag_LEAST_WIDTH⟩
  g_GREATEST_WIDTH := ⟨_, PySem.W.mg_of X G ag_GREATEST_WIDTH⟩
  z_isinstance := PySem.W.mg_none_of X G zz_isinstance
  z_str := PySem.W.mg_none_of X G zz_str
  z_bool := PySem.W.mg_none_of X G zz_bool
  z_int := PySem.W.mg_none_of X G zz_int
  z_abs := PySem.W.mg_none_of X G zz_abs
  z_divmod := PySem.W.mg_none_of X G zz_divmod
  z_max := PySem.W.mg_none_of X G zz_max
  z_min := PySem.W.mg_none_of X G zz_min
  z_len := PySem.W.mg_none_of X G zz_len
  z_tuple := PySem.W.mg_none_of X G zz_tuple
  z_range := PySem.W.mg_none_of X G zz_range
theorem all_mk {l : PySem.W.OpenLaw} {w : World} {K : PySem.W.Frag} {h : Heap} {mg : Str → Option Value} {fa : Addr} (hfa : mg "law" = some (.ref fa)) (T : Tx K mg) :
    ∃ fd : FuncData, (∀ (s : Shared) (v : Value), BindsTo s fd ⟨[v], []⟩ [("_law_script", v)]) ∧ ∀ base : Heap, K.In base → base.Ns mainGlobals mg → FnOk l.prog w K mg base CX0 9 fa fd ["_law_script"] (sp_law K) := by
  have e := hfa.symm.trans T.d_law.m
  cases e
  refine ⟨T.d_law.fd, fun s v => ?_, fun base _ _ => ok_law T⟩
  obtain ⟨oc, od, kV, doc, pm, an, cdv, ct, osl, e, _, _⟩ := T.d_law.F.ex
  rw [e]
  exact .of_eq rfl
theorem walk {l : PySem.W.OpenLaw} {q : Program} {loose : List Str} {XP : (Str → Option Value) → Heap → Prop} {YP : World → Heap → Prop} {d : DefRec} {K : Params → PySem.W.Frag} (hn : l.most = some 63) (hdf : d.params.defaults = [])
    (hY : ∀ (w : World) (h : Heap), YP w h → (K w.params).In h)
    (F : ∀ (w : World) (mg : Str → Option Value) (fa : Addr) (h : Heap), (K w.params).In h → h.Ns mainGlobals mg → mg d.name = some (.ref fa) →
      ∃ fd : FuncData, (∀ (s : Shared) (u : Value), BindsTo s fd ⟨[u], []⟩ [("_law_script", u)]) ∧ ∀ base : Heap, (K w.params).In base → base.Ns mainGlobals mg → FnOk l.prog w (K w.params) mg base CX0 9 fa fd ["_law_script"] (sp_law (K w.params))) :
    PySem.W.WalkO q loose XP YP l.row.toRowW d [] (fun f vs => PySem.call f vs) :=
  L2.walk_of (n := 63) (k := 9) (x := "_law_script") (CX := fun _ => CX0) (sp := fun w => sp_law (K w.params)) hn (by decide) hdf ⟨rfl, by decide, by decide⟩ hY F (fun _ _ a ns hl _ hS => ⟨a, ns, rfl, hS, hl, fun _ _ => rfl⟩) fun _ _ _ _ _ z => z
end Ow
open PySem PySem.W PyProof.Rows
set_option maxRecDepth 100000 in
set_option maxHeartbeats 0 in
set_option pp.deepTerms.threshold 3 in
set_option pp.maxSteps 150 in
theorem PySem.Challenge.cw_overwise_k16_into_words_holds : PySem.Challenge.rw_overwise_k16_into_words.Holds := by
  w_on; o_law; k_head; (case hw => w_witness2)
  k_fill
  refine _root_.Ow.walk (l := PySem.Challenge.rw_overwise_k16_into_words) rfl rfl (fun w h Y => PySem.W.kIn_of Y) ?F
  case F =>
    intro w mg fa h KX G hmg
    refine' _root_.Ow.all_mk (h := h) hmg (_root_.Ow.tx_mk KX G ?ak_Cut ?kp_Cut ?kh_Cut ?ko_Cut ?ks_Cut ?ak_Down ?kp_Down ?kh_Down ?ko_Down ?ks_Down ?ak_Kind ?kp_Kind ?kh_Kind ?ko_Kind ?ks_Kind ?ak_Near ?kp_Near ?kh_Near ?ko_Near ?ks_Near ?ak_Plain ?kp_Plain ?kh_Plain ?ko_Plain ?ks_Plain ?ak_Pointed ?kp_Pointed ?kh_Pointed ?ko_Pointed ?ks_Pointed ?ak_Signed ?kp_Signed ?kh_Signed ?ko_Signed ?ks_Signed ?ak_Up ?kp_Up ?kh_Up ?ko_Up ?ks_Up ?km_Cut ?ki_Cut ?kt_Cut ?kk_Cut ?km_Down ?ki_Down ?kt_Down ?kk_Down ?km_Near ?ki_Near ?kt_Near ?kk_Near ?km_Up ?ki_Up ?kt_Up ?kk_Up ?nah_Plain_point ?nah_Plain_width ?nah_Pointed_point ?nah_Pointed_width ?nah_Signed_point ?nah_Signed_width ?a_all_ways ?l_all_ways ?c_all_ways ?k_all_ways ?a_way_of ?l_way_of ?c_way_of ?k_way_of ?a_l_begun ?l_l_begun ?c_l_begun ?k_l_begun ?a_l_draw ?l_l_draw ?c_l_draw ?k_l_draw ?a_l_number ?l_l_number ?c_l_number ?k_l_number ?a_l_top ?l_l_top ?c_l_top ?k_l_top ?a_is_whole ?l_is_whole ?c_is_whole ?k_is_whole ?a_need_width ?l_need_width ?c_need_width ?k_need_width ?l_Kind___init__ ?c_Kind___init__ ?k_Kind___init__ ?l_Pointed___init__ ?c_Pointed___init__ ?k_Pointed___init__ ?l_Plain___init__ ?c_Plain___init__ ?k_Plain___init__ ?l_Signed___init__ ?c_Signed___init__ ?k_Signed___init__ ?a_l_kind ?l_l_kind ?c_l_kind ?k_l_kind ?a_l_ends ?l_l_ends ?c_l_ends ?k_l_ends ?a_l_right ?l_l_right ?c_l_right ?k_l_right ?a_l_whole_of ?l_l_whole_of ?c_l_whole_of ?k_l_whole_of ?l_Down_adjust ?c_Down_adjust ?k_Down_adjust ?ma_Down_adjust ?mf_Down_adjust ?l_Up_adjust ?c_Up_adjust ?k_Up_adjust ?ma_Up_adjust ?mf_Up_adjust ?l_Way_adjust ?c_Way_adjust ?k_Way_adjust ?ma_Cut_adjust ?mf_Cut_adjust ?l_Near_adjust ?c_Near_adjust ?k_Near_adjust ?ma_Near_adjust ?mf_Near_adjust ?l_Way_rounded ?c_Way_rounded ?k_Way_rounded ?ma_Cut_rounded ?mf_Cut_rounded ?ma_Down_rounded ?mf_Down_rounded ?ma_Near_rounded ?mf_Near_rounded ?ma_Up_rounded ?mf_Up_rounded ?l_Plain_least ?c_Plain_least ?k_Plain_least ?ma_Plain_least ?mf_Plain_least ?l_Kind_least ?c_Kind_least ?k_Kind_least ?ma_Pointed_least ?mf_Pointed_least ?ma_Signed_least ?mf_Signed_least ?l_Plain_greatest ?c_Plain_greatest ?k_Plain_greatest ?ma_Plain_greatest ?mf_Plain_greatest ?l_Kind_greatest ?c_Kind_greatest ?k_Kind_greatest ?ma_Pointed_greatest ?mf_Pointed_greatest ?ma_Signed_greatest ?mf_Signed_greatest ?l_Kind_is_count ?c_Kind_is_count ?k_Kind_is_count ?ma_Plain_is_count ?mf_Plain_is_count ?ma_Pointed_is_count ?mf_Pointed_is_count ?ma_Signed_is_count ?mf_Signed_is_count ?l_Kind_bits_of ?c_Kind_bits_of ?k_Kind_bits_of ?ma_Plain_bits_of ?mf_Plain_bits_of ?ma_Pointed_bits_of ?mf_Pointed_bits_of ?ma_Signed_bits_of ?mf_Signed_bits_of ?l_Kind_stop_at ?c_Kind_stop_at ?k_Kind_stop_at ?ma_Plain_stop_at ?mf_Plain_stop_at ?ma_Pointed_stop_at ?mf_Pointed_stop_at ?ma_Signed_stop_at ?mf_Signed_stop_at ?l_Kind_go_round ?c_Kind_go_round ?k_Kind_go_round ?ma_Plain_go_round ?mf_Plain_go_round ?ma_Pointed_go_round ?mf_Pointed_go_round ?ma_Signed_go_round ?mf_Signed_go_round ?a_into ?l_into ?c_into ?k_into ?a_l_whole ?l_l_whole ?c_l_whole ?k_l_whole ?a_l_good ?l_l_good ?c_l_good ?k_l_good ?a_l_due ?l_l_due ?c_l_due ?k_l_due ?a_l_one ?l_l_one ?c_l_one ?k_l_one ?a_l_cell ?l_l_cell ?c_l_cell ?k_l_cell ?a_law ?l_law ?c_law ?k_law ?km_Plain ?kin_Plain ?kif_Plain ?kk_Plain ?km_Pointed ?kin_Pointed ?kif_Pointed ?kk_Pointed ?km_Signed ?kin_Signed ?kif_Signed ?kk_Signed ?ct_Kind___init__ ?cr_Kind___init__ ?cg_Kind___init__ ?cv_Kind___init__ ?ag_LEAST_WIDTH ?ag_GREATEST_WIDTH ?zz_isinstance ?zz_str ?zz_bool ?zz_int ?zz_abs ?zz_divmod ?zz_max ?zz_min ?zz_len ?zz_tuple ?zz_range)
    (case ak_Cut => k_is)
    (case kp_Cut => k_is)
    (case ak_Down => k_is)
    (case kp_Down => k_is)
    (case ak_Kind => k_is)
    (case kp_Kind => k_is)
    (case ak_Near => k_is)
    (case kp_Near => k_is)
    (case ak_Plain => k_is)
    (case kp_Plain => k_is)
    (case ak_Pointed => k_is)
    (case kp_Pointed => k_is)
    (case ak_Signed => k_is)
    (case kp_Signed => k_is)
    (case ak_Up => k_is)
    (case kp_Up => k_is)
    (case ma_Down_adjust => k_is)
    (case ma_Up_adjust => k_is)
    (case ma_Cut_adjust => k_is)
    (case ma_Near_adjust => k_is)
    (case ma_Cut_rounded => k_is)
    (case ma_Down_rounded => k_is)
    (case ma_Near_rounded => k_is)
    (case ma_Up_rounded => k_is)
    (case ma_Plain_least => k_is)
    (case ma_Pointed_least => k_is)
    (case ma_Signed_least => k_is)
    (case ma_Plain_greatest => k_is)
    (case ma_Pointed_greatest => k_is)
    (case ma_Signed_greatest => k_is)
    (case ma_Plain_is_count => k_is)
    (case ma_Pointed_is_count => k_is)
    (case ma_Signed_is_count => k_is)
    (case ma_Plain_bits_of => k_is)
    (case ma_Pointed_bits_of => k_is)
    (case ma_Signed_bits_of => k_is)
    (case ma_Plain_stop_at => k_is)
    (case ma_Pointed_stop_at => k_is)
    (case ma_Signed_stop_at => k_is)
    (case ma_Plain_go_round => k_is)
    (case ma_Pointed_go_round => k_is)
    (case ma_Signed_go_round => k_is)
    (case kin_Plain => k_is)
    (case kin_Pointed => k_is)
    (case kin_Signed => k_is)
    (case ct_Kind___init__ => k_is)
    (case cv_Kind___init__ => k_is)
    (case kh_Cut => k_is)
    (case ko_Cut => k_is)
    (case ks_Cut => k_is)
    (case kh_Down => k_is)
    (case ko_Down => k_is)
    (case ks_Down => k_is)
    (case kh_Kind => k_is)
    (case ko_Kind => k_is)
    (case ks_Kind => k_is)
    (case kh_Near => k_is)
    (case ko_Near => k_is)
    (case ks_Near => k_is)
    (case kh_Plain => k_is)
    (case ko_Plain => k_is)
    (case ks_Plain => k_is)
    (case kh_Pointed => k_is)
    (case ko_Pointed => k_is)
    (case ks_Pointed => k_is)
    (case kh_Signed => k_is)
    (case ko_Signed => k_is)
    (case ks_Signed => k_is)
    (case kh_Up => k_is)
    (case ko_Up => k_is)
    (case ks_Up => k_is)
    (case km_Cut => k_is)
    (case ki_Cut => k_is)
    (case kt_Cut => k_is)
    (case kk_Cut => k_is)
    (case km_Down => k_is)
    (case ki_Down => k_is)
    (case kt_Down => k_is)
    (case kk_Down => k_is)
    (case km_Near => k_is)
    (case ki_Near => k_is)
    (case kt_Near => k_is)
    (case kk_Near => k_is)
    (case km_Up => k_is)
    (case ki_Up => k_is)
    (case kt_Up => k_is)
    (case kk_Up => k_is)
    (case nah_Plain_point => k_is)
    (case nah_Plain_width => k_is)
    (case nah_Pointed_point => k_is)
    (case nah_Pointed_width => k_is)
    (case nah_Signed_point => k_is)
    (case nah_Signed_width => k_is)
    (case a_all_ways => k_is)
    (case l_all_ways => k_is)
    (case c_all_ways => k_is)
    (case k_all_ways => k_is)
    (case a_way_of => k_is)
    (case l_way_of => k_is)
    (case c_way_of => k_is)
    (case k_way_of => k_is)
    (case a_l_begun => k_is)
    (case l_l_begun => k_is)
    (case c_l_begun => k_is)
    (case k_l_begun => k_is)
    (case a_l_draw => k_is)
    (case l_l_draw => k_is)
    (case c_l_draw => k_is)
    (case k_l_draw => k_is)
    (case a_l_number => k_is)
    (case l_l_number => k_is)
    (case c_l_number => k_is)
    (case k_l_number => k_is)
    (case a_l_top => k_is)
    (case l_l_top => k_is)
    (case c_l_top => k_is)
    (case k_l_top => k_is)
    (case a_is_whole => k_is)
    (case l_is_whole => k_is)
    (case c_is_whole => k_is)
    (case k_is_whole => k_is)
    (case a_need_width => k_is)
    (case l_need_width => k_is)
    (case c_need_width => k_is)
    (case k_need_width => k_is)
    (case l_Kind___init__ => k_is)
    (case c_Kind___init__ => k_is)
    (case k_Kind___init__ => k_is)
    (case l_Pointed___init__ => k_is)
    (case c_Pointed___init__ => k_is)
    (case k_Pointed___init__ => k_is)
    (case l_Plain___init__ => k_is)
    (case c_Plain___init__ => k_is)
    (case k_Plain___init__ => k_is)
    (case l_Signed___init__ => k_is)
    (case c_Signed___init__ => k_is)
    (case k_Signed___init__ => k_is)
    (case a_l_kind => k_is)
    (case l_l_kind => k_is)
    (case c_l_kind => k_is)
    (case k_l_kind => k_is)
    (case a_l_ends => k_is)
    (case l_l_ends => k_is)
    (case c_l_ends => k_is)
    (case k_l_ends => k_is)
    (case a_l_right => k_is)
    (case l_l_right => k_is)
    (case c_l_right => k_is)
    (case k_l_right => k_is)
    (case a_l_whole_of => k_is)
    (case l_l_whole_of => k_is)
    (case c_l_whole_of => k_is)
    (case k_l_whole_of => k_is)
    (case l_Down_adjust => k_is)
    (case c_Down_adjust => k_is)
    (case k_Down_adjust => k_is)
    (case mf_Down_adjust => k_is)
    (case l_Up_adjust => k_is)
    (case c_Up_adjust => k_is)
    (case k_Up_adjust => k_is)
    (case mf_Up_adjust => k_is)
    (case l_Way_adjust => k_is)
    (case c_Way_adjust => k_is)
    (case k_Way_adjust => k_is)
    (case mf_Cut_adjust => k_is)
    (case l_Near_adjust => k_is)
    (case c_Near_adjust => k_is)
    (case k_Near_adjust => k_is)
    (case mf_Near_adjust => k_is)
    (case l_Way_rounded => k_is)
    (case c_Way_rounded => k_is)
    (case k_Way_rounded => k_is)
    (case mf_Cut_rounded => k_is)
    (case mf_Down_rounded => k_is)
    (case mf_Near_rounded => k_is)
    (case mf_Up_rounded => k_is)
    (case l_Plain_least => k_is)
    (case c_Plain_least => k_is)
    (case k_Plain_least => k_is)
    (case mf_Plain_least => k_is)
    (case l_Kind_least => k_is)
    (case c_Kind_least => k_is)
    (case k_Kind_least => k_is)
    (case mf_Pointed_least => k_is)
    (case mf_Signed_least => k_is)
    (case l_Plain_greatest => k_is)
    (case c_Plain_greatest => k_is)
    (case k_Plain_greatest => k_is)
    (case mf_Plain_greatest => k_is)
    (case l_Kind_greatest => k_is)
    (case c_Kind_greatest => k_is)
    (case k_Kind_greatest => k_is)
    (case mf_Pointed_greatest => k_is)
    (case mf_Signed_greatest => k_is)
    (case l_Kind_is_count => k_is)
    (case c_Kind_is_count => k_is)
    (case k_Kind_is_count => k_is)
    (case mf_Plain_is_count => k_is)
    (case mf_Pointed_is_count => k_is)
    (case mf_Signed_is_count => k_is)
    (case l_Kind_bits_of => k_is)
    (case c_Kind_bits_of => k_is)
    (case k_Kind_bits_of => k_is)
    (case mf_Plain_bits_of => k_is)
    (case mf_Pointed_bits_of => k_is)
    (case mf_Signed_bits_of => k_is)
    (case l_Kind_stop_at => k_is)
    (case c_Kind_stop_at => k_is)
    (case k_Kind_stop_at => k_is)
    (case mf_Plain_stop_at => k_is)
    (case mf_Pointed_stop_at => k_is)
    (case mf_Signed_stop_at => k_is)
    (case l_Kind_go_round => k_is)
    (case c_Kind_go_round => k_is)
    (case k_Kind_go_round => k_is)
    (case mf_Plain_go_round => k_is)
    (case mf_Pointed_go_round => k_is)
    (case mf_Signed_go_round => k_is)
    (case a_into => k_is)
    (case l_into => k_is)
    (case c_into => k_is)
    (case k_into => k_is)
    (case a_l_whole => k_is)
    (case l_l_whole => k_is)
    (case c_l_whole => k_is)
    (case k_l_whole => k_is)
    (case a_l_good => k_is)
    (case l_l_good => k_is)
    (case c_l_good => k_is)
    (case k_l_good => k_is)
    (case a_l_due => k_is)
    (case l_l_due => k_is)
    (case c_l_due => k_is)
    (case k_l_due => k_is)
    (case a_l_one => k_is)
    (case l_l_one => k_is)
    (case c_l_one => k_is)
    (case k_l_one => k_is)
    (case a_l_cell => k_is)
    (case l_l_cell => k_is)
    (case c_l_cell => k_is)
    (case k_l_cell => k_is)
    (case a_law => k_is)
    (case l_law => k_is)
    (case c_law => k_is)
    (case k_law => k_is)
    (case km_Plain => k_is)
    (case kif_Plain => k_is)
    (case kk_Plain => k_is)
    (case km_Pointed => k_is)
    (case kif_Pointed => k_is)
    (case kk_Pointed => k_is)
    (case km_Signed => k_is)
    (case kif_Signed => k_is)
    (case kk_Signed => k_is)
    (case cr_Kind___init__ => k_is)
    (case cg_Kind___init__ => k_is)
    (case ag_LEAST_WIDTH => k_is)
    (case ag_GREATEST_WIDTH => k_is)
    (case zz_isinstance => k_is)
    (case zz_str => k_is)
    (case zz_bool => k_is)
    (case zz_int => k_is)
    (case zz_abs => k_is)
    (case zz_divmod => k_is)
    (case zz_max => k_is)
    (case zz_min => k_is)
    (case zz_len => k_is)
    (case zz_tuple => k_is)
    (case zz_range => k_is)
