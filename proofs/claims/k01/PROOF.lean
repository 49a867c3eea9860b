import PyProof.Rows.All
import Wide.All
import OpenK.AllK
import Wide.FinOn
import HandS.ForMost
import HandS.Wide
import HandS.WideBits
import HandS.IsInst
import HandS.Style
import HandS.ForExc
import HandS.New0
import HandS.ExcInit
import HandS.ExcIs
import HandS.ClsMeth
import HandS.NoneIn
import HandS.Conv
import KE.IntBitsLaws
import HandS.Rev
import PySem.Challenge.RW_overwise_k01_kinds_and_counts
set_option Elab.async false
set_option linter.all false
set_option maxRecDepth 100000
set_option maxHeartbeats 20000000
/-! ### own rules and steps -/
namespace Ow
open PySem L2
section
variable {Q : VK} {H H' : Hp} {A B : Prop}
theorem gi {e : Int} (h : ∀ x, x = e → Q (.int x) H) : Q (.int e) H := h e rfl
theorem gl {e n : Int} (h : e = n) (q : Q (.int n) H) : Q (.int e) H := h ▸ q
theorem gs {e n : Str} (h : e = n) (q : Q (.str n) H) : Q (.str e) H := h ▸ q
theorem cc {v : V} {σ : L2.St} (h : Q v H) : tC v σ H Q := h
theorem p2 (k : Nat) : (0 : Int) < 2 ^ k := Int.pow_pos (by decide)
theorem gpow {k : Nat} (h : ∀ x, x = (2 : Int) ^ k → 0 < x → Q (.int x) H) : Q (.int (1 * 2 ^ k)) H := by
  rw [Int.one_mul]; exact h _ rfl (p2 k)
theorem gmod {i j : Int} (hj : 0 < j) (h : ∀ x, x = i % j → 0 ≤ x → x < j → Q (.int x) H) : Q (.int (i % j)) H :=
  h _ rfl (Int.emod_nonneg _ (by omega)) (Int.emod_lt_of_pos _ hj)
theorem gmax {i j : Int} (h : ∀ x, (i ≤ x ∧ j ≤ x ∧ (x = i ∨ x = j)) → Q (.int x) H) : Q (.int (if j > i then j else i)) H := by
  apply h; split <;> omega
theorem gmin {i j : Int} (h : ∀ x, (x ≤ i ∧ x ≤ j ∧ (x = i ∨ x = j)) → Q (.int x) H) : Q (.int (if j < i then j else i)) H := by
  apply h; split <;> omega
theorem max_ite {x i j : Int} (h : x = if j > i then j else i) : i ≤ x ∧ j ≤ x ∧ (x = i ∨ x = j) := by split at h <;> omega
theorem min_ite {x i j : Int} (h : x = if j < i then j else i) : x ≤ i ∧ x ≤ j ∧ (x = i ∨ x = j) := by split at h <;> omega
theorem abs_ite {x i : Int} (h : x = if i < 0 then -i else i) : (0 ≤ i ∧ x = i) ∨ (i < 0 ∧ x = -i) := by split at h <;> omega
theorem eqi {a b : Int} (h : a = b) (q : Q (.int b) H) : Q (.int a) H := h ▸ q
theorem eqb {a b : Bool} (h : a = b) (q : Q (.bl b) H) : Q (.bl a) H := h ▸ q
theorem eqd {P : Prop} [Decidable P] (h : P) (q : Q (.bl true) H) : Q (.bl (decide P)) H := by rw [decide_eq_true h]; exact q
theorem eqnd {P : Prop} [Decidable P] (h : ¬ P) (q : Q (.bl true) H) : Q (.bl (!decide P)) H := by rw [decide_eq_false h]; exact q
theorem eqeqi {i j : Int} (h : i = j) (q : Q (.bl true) H) : Q (.bl (decide (V.int i = V.int j))) H := by rw [decide_eq_true (by rw [h])]; exact q
theorem eqnei {i j : Int} (h : i ≠ j) (q : Q (.bl true) H) : Q (.bl (!decide (V.int i = V.int j))) H := by
  rw [decide_eq_false (fun z => h (V.int.inj z))]; exact q
theorem ginteq {i j : Int} (h : ∀ n : Int, ((n = 1 ∧ i = j) ∨ (n = 0 ∧ i ≠ j)) → Q (.int n) H) : Q (.int (if decide (V.int i = V.int j) = true then 1 else 0)) H := by
  by_cases e : i = j
  · rw [if_pos (decide_eq_true (by rw [e]))]; exact h _ (.inl ⟨rfl, e⟩)
  · rw [if_neg (fun z => e (V.int.inj (of_decide_eq_true z)))]; exact h _ (.inr ⟨rfl, e⟩)
theorem gintd {P : Prop} [Decidable P] (h : ∀ n : Int, ((n = 1 ∧ P) ∨ (n = 0 ∧ ¬ P)) → Q (.int n) H) : Q (.int (if decide P = true then 1 else 0)) H := by
  by_cases e : P
  · rw [if_pos (decide_eq_true e)]; exact h _ (.inl ⟨rfl, e⟩)
  · rw [if_neg (fun z => e (of_decide_eq_true z))]; exact h _ (.inr ⟨rfl, e⟩)
theorem ifb {b : Bool} (h1 : b = true → A) (h2 : b = false → B) : if b = true then A else B := by
  cases b
  · exact iteF (h2 rfl)
  · exact iteT (h1 rfl)
/-- None or an int -/
def _root_.L2.V.ov : Option Int → V
  | none => .non
  | some r => .int r
theorem ov_inj : ∀ {a b : Option Int}, V.ov a = V.ov b → a = b
  | none, none, _ => rfl
  | none, some r, h => V.noConfusion h
  | some r, none, h => V.noConfusion h
  | some r, some s, h => by rw [V.int.inj h]
theorem scal_ov : ∀ {a b : Option Int}, scal (V.ov a) (V.ov b) = true
  | none, none => rfl
  | none, some r => rfl
  | some r, none => rfl
  | some r, some s => rfl
theorem ifeqo {a b : Option Int} (h1 : a = b → A) (h2 : a ≠ b → B) : if decide (V.ov a = V.ov b) = true then A else B := by
  by_cases e : a = b
  · rw [if_pos (decide_eq_true (by rw [e]))]; exact h1 e
  · rw [if_neg (fun z => e (ov_inj (of_decide_eq_true z)))]; exact h2 e
theorem ifneo {a b : Option Int} (h1 : a ≠ b → A) (h2 : a = b → B) : if (!decide (V.ov a = V.ov b)) = true then A else B := by
  by_cases e : a = b
  · rw [decide_eq_true (show V.ov a = V.ov b by rw [e])]; exact iteF (h2 e)
  · rw [decide_eq_false (fun z => e (ov_inj z))]; exact iteT (h1 e)
theorem eqeqo {a b : Option Int} (h : a = b) (q : Q (.bl true) H) : Q (.bl (decide (V.ov a = V.ov b))) H := by rw [decide_eq_true (by rw [h])]; exact q
theorem ifnb {b : Bool} (h1 : b = false → A) (h2 : b = true → B) : if (!b) = true then A else B := by
  cases b
  · exact iteT (h1 rfl)
  · exact iteF (h2 rfl)
theorem ifd {P : Prop} [Decidable P] (h1 : P → A) (h2 : ¬ P → B) : if decide P = true then A else B := by
  by_cases e : P
  · rw [if_pos (decide_eq_true e)]; exact h1 e
  · rw [if_neg (fun z => e (of_decide_eq_true z))]; exact h2 e
theorem ifnd {P : Prop} [Decidable P] (h1 : ¬ P → A) (h2 : P → B) : if (!decide P) = true then A else B := by
  by_cases e : P
  · rw [decide_eq_true e]; exact iteF (h2 e)
  · rw [decide_eq_false e]; exact iteT (h1 e)
theorem ifeqi {i j : Int} (h1 : i = j → A) (h2 : i ≠ j → B) : if decide (V.int i = V.int j) = true then A else B :=
  ifd (fun e => h1 (V.int.inj e)) (fun e => h2 (fun z => e (by rw [z])))
theorem ifnei {i j : Int} (h1 : i ≠ j → A) (h2 : i = j → B) : if (!decide (V.int i = V.int j)) = true then A else B :=
  ifnd (fun e => h1 (fun z => e (by rw [z]))) (fun e => h2 (V.int.inj e))
theorem ifeqs {i j : Str} (h1 : i = j → A) (h2 : i ≠ j → B) : if decide (V.str i = V.str j) = true then A else B :=
  ifd (fun e => h1 (V.str.inj e)) (fun e => h2 (fun z => e (by rw [z])))
theorem ifnes {i j : Str} (h1 : i ≠ j → A) (h2 : i = j → B) : if (!decide (V.str i = V.str j)) = true then A else B :=
  ifnd (fun e => h1 (fun z => e (by rw [z]))) (fun e => h2 (V.str.inj e))
theorem ifeqb {a b : Bool} (h1 : (a = true ↔ b = true) → A) (h2 : ¬ (a = true ↔ b = true) → B) : if decide (V.bl a = V.bl b) = true then A else B :=
  ifd (fun e => h1 (by rw [V.bl.inj e])) (fun e => h2 (fun z => e (by rw [Bool.eq_iff_iff.mpr z])))
theorem ifneb {a b : Bool} (h1 : ¬ (a = true ↔ b = true) → A) (h2 : (a = true ↔ b = true) → B) : if (!decide (V.bl a = V.bl b)) = true then A else B :=
  ifnd (fun e => h1 (fun z => e (by rw [Bool.eq_iff_iff.mpr z]))) (fun e => h2 (by rw [V.bl.inj e]))
/-! heaps -/
theorem at_new {p q : Addr} {u o : HO} (hp : H p = none) (h : H q = some o) : upd H p u q = some o := by rw [upd_ne (ne_of_none h hp)]; exact h
theorem at_mut {b q : Addr} {u o : HO} (hn : q ≠ b) (h : H q = some o) : upd H b u q = some o := by rw [upd_ne hn]; exact h
theorem ne_tl {p b : Addr} {xs ys : List V} (h : H p = some (.tup xs)) (hb : H b = some (.lst ys)) : p ≠ b := fun e => by rw [e, hb] at h; cases h
theorem at_mutT {b p : Addr} {u : HO} {xs ys : List V} (hb : H b = some (.lst ys)) (h : H p = some (.tup xs)) : upd H b u p = some (.tup xs) := at_mut (ne_tl h hb) h
theorem at_mutL {b p : Addr} {u : HO} {xs ys : List V} (hb : H b = some (.tup ys)) (h : H p = some (.lst xs)) : upd H b u p = some (.lst xs) := at_mut (fun e => ne_tl hb h e.symm) h
theorem same_new {p : Addr} {u : HO} (hp : H p = none) : Same H (upd H p u) := fun _ _ h => at_new hp h
theorem same_mut {b : Addr} {u : HO} (s : Same H H') (hb : H b = none) : Same H (upd H' b u) := fun q o h => by rw [upd_ne (ne_of_none h hb)]; exact s q o h
theorem ne_sym {a b : Addr} (h : a ≠ b) : b ≠ a := fun z => h z.symm
theorem seq {K : PySem.W.Frag} {a : Addr} {xs : List V} (e : Same H H') (h : SqL K H a xs) : SqL K H' a xs := e.seq h
theorem seqT {K : PySem.W.Frag} {a : Addr} {xs : List V} (e : Same H H') (h : SqT K H a xs) : SqT K H' a xs := by
  rcases h with (h | ⟨o, h⟩) | h
  · exact .inl (.inl (e _ _ h))
  · exact .inl (.inr ⟨o, e _ _ h⟩)
  · exact .inr h
end
/-! operators -/
section
variable {X : Cx}
/-- named answers -/
theorem op_mulN : OpR X (binaryOp .Mult) (fun x y H Q => ∃ i j, x = .int i ∧ y = .int j ∧ (CMul i j ∨ CMulX i j) ∧ ∀ z, z = i * j → Q (.int z) H) := by
  intro pins s σ H x y v u Q I rx ry q
  obtain ⟨i, j, rfl, rfl, hc | hc, q⟩ := q
  · exact op_mul pins s σ H _ _ v u Q I rx ry ⟨i, j, rfl, rfl, hc, q _ rfl⟩
  · exact op_mulX pins s σ H _ _ v u Q I rx ry ⟨i, j, rfl, rfl, hc, q _ rfl⟩
theorem op_divN : OpR X (binaryOp .FloorDiv) (fun x y H Q => ∃ i j, x = .int i ∧ y = .int j ∧ CDivW i j ∧ ∀ z, z = i / j → Q (.int z) H) := by
  intro pins s σ H x y v u Q I rx ry q
  obtain ⟨i, j, rfl, rfl, hc, q⟩ := q
  exact op_fdivW pins s σ H _ _ v u Q I rx ry ⟨i, j, rfl, rfl, hc, q _ rfl⟩
theorem op_divF : OpR X (binaryOp .FloorDiv) (fun x y H Q => ∃ i j, x = .int i ∧ y = .int j ∧ (j ≠ 0 ∧ j.natAbs.log2 < 9000) ∧ ∀ z, z = i.fdiv j → Q (.int z) H) := by
  intro pins s σ H x y v u Q I rx ry q
  obtain ⟨i, j, rfl, rfl, hc, q⟩ := q
  obtain ⟨t, rfl⟩ := rx
  obtain ⟨t', rfl⟩ := ry
  exact PyProof.Rows.floordiv_int hc.1 ⟨.int (i.fdiv j), H, I.tok _, ⟨_, rfl⟩, q _ rfl⟩ (.inl (PyProof.noPylong_of_log2 hc.2))
theorem op_shlN : OpR X (binaryOp .LShift) (fun x y H Q => ∃ i j, x = .int i ∧ y = .int j ∧ (CPow i j ∨ CShl i j) ∧ ∀ z, z = i * 2 ^ j.toNat → Q (.int z) H) := by
  intro pins s σ H x y v u Q I rx ry q
  obtain ⟨i, j, rfl, rfl, hc | hc, q⟩ := q
  · exact op_shl pins s σ H _ _ v u Q I rx ry ⟨i, j, rfl, rfl, hc, q _ rfl⟩
  · exact op_shlW pins s σ H _ _ v u Q I rx ry ⟨i, j, rfl, rfl, hc, q _ rfl⟩
theorem op_shrN : OpR X (binaryOp .RShift) (fun x y H Q => ∃ i j, x = .int i ∧ y = .int j ∧ 0 ≤ j ∧ ∀ z, z = i / 2 ^ j.toNat → Q (.int z) H) := by
  intro pins s σ H x y v u Q I rx ry q
  obtain ⟨i, j, rfl, rfl, hc, q⟩ := q
  exact op_shr pins s σ H _ _ v u Q I rx ry ⟨i, j, rfl, rfl, hc, q _ rfl⟩
theorem op_modN : OpR X (binaryOp .Mod) (fun x y H Q => ∃ i j, x = .int i ∧ y = .int j ∧ 0 < j ∧ ∀ z, z = i % j → 0 ≤ z → z < j → Q (.int z) H) := by
  intro pins s σ H x y v u Q I rx ry q
  obtain ⟨i, j, rfl, rfl, hc, q⟩ := q
  exact op_mod pins s σ H _ _ v u Q I rx ry ⟨i, j, rfl, rfl, hc, q _ rfl (Int.emod_nonneg _ (by omega)) (Int.emod_lt_of_pos _ hc)⟩
theorem op_shl1 : OpR X (binaryOp .LShift) (fun x y H Q => ∃ j, x = .int 1 ∧ y = .int j ∧ (0 ≤ j ∧ j ≤ 1000000) ∧ ∀ z, z = 2 ^ j.toNat → 0 < z → Q (.int z) H) := by
  intro pins s σ H x y v u Q I rx ry q
  obtain ⟨j, rfl, rfl, ⟨h0, h1⟩, q⟩ := q
  refine op_shl pins s σ H _ _ v u Q I rx ry ⟨1, j, rfl, rfl, ⟨h0, h1, by decide⟩, ?_⟩
  show Q (.int (1 * 2 ^ j.toNat)) H
  rw [Int.one_mul]
  exact q _ rfl (p2 _)
theorem op_mask : OpR X (binaryOp .BitAnd) (fun x y H Q => ∃ (i j : Int) (k : Nat), x = .int i ∧ y = .int j ∧ j = 2 ^ k - 1 ∧ ∀ r, r = i % 2 ^ k → 0 ≤ r → r < 2 ^ k → Q (.int r) H) := by
  intro pins s σ H x y v u Q I rx ry h
  obtain ⟨i, j, k, rfl, rfl, rfl, q⟩ := h
  refine op_andM pins s σ H _ _ v u Q I rx ry ⟨i, k, rfl, rfl, q _ rfl (Int.emod_nonneg _ ?_) (Int.emod_lt_of_pos _ (p2 k))⟩
  have := p2 k; omega
theorem op_bor : OpR X (binaryOp .BitOr) (fun x y H Q => ∃ (i j : Int), x = .int i ∧ y = .int j ∧ 0 ≤ i ∧ 0 ≤ j ∧ ∀ r, r = Builtin.bitOr i j → 0 ≤ r → Q (.int r) H) := by
  intro pins s σ H x y v u Q I rx ry h
  obtain ⟨i, j, rfl, rfl, h0, h1, q⟩ := h
  refine op_or pins s σ H _ _ v u Q I rx ry ⟨i, j, rfl, rfl, q _ rfl ?_⟩
  rw [bitOr_nn h0 h1]
  exact Int.natCast_nonneg _
theorem call_dm : CallR X (.builtin "divmod") (fun xs H Q => ∃ i j, xs = [.int i, .int j] ∧ CDivP i j ∧ ∀ q r p, q = i / j → r = i % j → 0 ≤ r → r < j → H p = none → Q (.ref p) (upd H p (.tup [.int q, .int r]))) := by
  intro pins s σ H xs us Q I r h
  obtain ⟨i, j, rfl, hc, q⟩ := h
  exact call_divmodW pins s σ H _ us Q I r ⟨i, j, rfl, hc, fun p hp => q _ _ p rfl rfl (Int.emod_nonneg _ (by have := hc.1; omega)) (Int.emod_lt_of_pos _ hc.1) hp⟩
theorem call_intb : CallR X (.type "int") (fun xs H Q => ∃ k, xs = [.bl k] ∧ ∀ n : Int, ((n = 1 ∧ k = true) ∨ (n = 0 ∧ k = false)) → Q (.int n) H) := by
  intro pins s σ H xs us Q I r h
  obtain ⟨k, rfl, q⟩ := h
  refine call_int1 pins s σ H _ us Q I r (.inr ⟨k, rfl, ?_⟩)
  cases k
  · exact q _ (.inr ⟨rfl, rfl⟩)
  · exact q _ (.inl ⟨rfl, rfl⟩)
/-- an int's value by a name -/
def tNmi (t : TE) : TE := fun σ H Q => t σ H fun v H1 => ∃ i, v = .int i ∧ ∀ x, x = i → Q (.int x) H1
theorem pe_nmi {e : Expr} {t : TE} (h : PE X e t) : PE X e (tNmi t) := ⟨fun pins s σ H Q I q => thn (h.run pins s σ H _ I q) fun _ _ z => by
  obtain ⟨v, H1, I1, r1, i, rfl, q1⟩ := z
  exact ⟨.int i, H1, I1, r1, q1 i rfl⟩⟩
/-- a reckoned constant -/
def tLit (n : Int) (t : TE) : TE := fun σ H Q => t σ H fun v H1 => v = .int n ∧ Q (.int n) H1
theorem pe_lit (n : Int) {e : Expr} {t : TE} (h : PE X e t) : PE X e (tLit n t) := ⟨fun pins s σ H Q I q => thn (h.run pins s σ H _ I q) fun _ _ z => by
  obtain ⟨v, H1, I1, r1, rfl, q1⟩ := z
  exact ⟨.int n, H1, I1, r1, q1⟩⟩
end
theorem pow2_mono {a b : Nat} (h : a ≤ b) : (2 : Int) ^ a ≤ 2 ^ b := by
  have e : (2 : Int) ^ b = 2 ^ a * 2 ^ (b - a) := by rw [← Int.pow_add, show a + (b - a) = b by omega]
  rw [e]
  have h1 := p2 a
  have h2 := p2 (b - a)
  calc (2 : Int) ^ a = 2 ^ a * 1 := by omega
    _ ≤ 2 ^ a * 2 ^ (b - a) := Int.mul_le_mul_of_nonneg_left (by omega) (by omega)
theorem pow2_pred {w : Int} (h : 1 ≤ w) : (2 : Int) ^ w.toNat = 2 * 2 ^ (w - 1).toNat := by
  have e : w.toNat = (w - 1).toNat + 1 := by omega
  rw [e, Int.pow_succ, Int.mul_comm]
theorem pow2_lt {a b : Int} (h0 : 0 ≤ a) (h : a < b) : (2 : Int) ^ a.toNat < 2 ^ b.toNat := by
  have h1 := pow2_mono (a := a.toNat) (b := (b - 1).toNat) (by omega)
  have h2 := pow2_pred (w := b) (by omega)
  have h3 := p2 (b - 1).toNat
  omega
theorem pow2_le32 {w : Int} (h : w ≤ 32) : (2 : Int) ^ w.toNat ≤ 4294967296 := pow2_mono (b := 32) (by omega)
theorem pow2_le64 {w : Int} (h : w ≤ 64) : (2 : Int) ^ w.toNat ≤ 18446744073709551616 := pow2_mono (b := 64) (by omega)
theorem divw64 {i j : Int} (h0 : 0 < j) (h : j ≤ 18446744073709551616) : CDivW i j := wide_div h0 (b := 65) (by omega) (by decide) (by decide)
/-! sizes -/
def Sz (n : Nat) (i : Int) : Prop := i.natAbs < 2 ^ n
theorem Sz.lit {n : Nat} {i : Int} (h : i.natAbs < 2 ^ n) : Sz n i := h
theorem Sz.mono {a b : Nat} {i : Int} (h : Sz a i) (hab : a ≤ b) : Sz b i := Nat.lt_of_lt_of_le h (Nat.pow_le_pow_right (by decide) hab)
theorem Sz.mul {a b : Nat} {i j : Int} (h : Sz a i) (h' : Sz b j) : Sz (a + b) (i * j) := wide_lt h h'
theorem Sz.le {a : Nat} {i j : Int} (h : Sz a i) (hl : j.natAbs ≤ i.natAbs) : Sz a j := Nat.lt_of_le_of_lt hl h
theorem Sz.add {a : Nat} {i j : Int} (h : Sz a i) (h' : Sz a j) : Sz (a + 1) (i + j) := by
  unfold Sz at *
  rw [Nat.pow_succ]
  have := Int.natAbs_add_le i j
  omega
theorem Sz.neg {a : Nat} {i : Int} (h : Sz a i) : Sz a (-i) := by unfold Sz at *; rw [Int.natAbs_neg]; exact h
theorem Sz.sub {a : Nat} {i j : Int} (h : Sz a i) (h' : Sz a j) : Sz (a + 1) (i - j) := by
  rw [Int.sub_eq_add_neg]; exact h.add h'.neg
theorem Sz.pow {k : Int} {n : Nat} (h : k ≤ n) : Sz (n + 1) (2 ^ k.toNat) := by
  unfold Sz
  rw [Int.natAbs_pow]
  exact Nat.pow_lt_pow_right (by decide) (by omega)
theorem Sz.shl {a n : Nat} {i k : Int} (h : Sz a i) (hk : k ≤ n) : Sz (a + (n + 1)) (i * 2 ^ k.toNat) := h.mul (Sz.pow hk)
theorem Sz.div {a : Nat} {i j : Int} (h : Sz a i) (hj : 0 < j) : Sz a (i / j) := by
  refine h.le ?_
  have h1 := Int.ediv_mul_add_emod i j
  have h2 := Int.emod_nonneg i (show j ≠ 0 by omega)
  have h3 := Int.emod_lt_of_pos i hj
  by_cases hi : i < 0
  · have h4 : i ≤ i / j := by
      refine (Int.le_ediv_iff_mul_le hj).mpr ?_
      have : i * 1 ≥ i * j := Int.mul_le_mul_of_nonpos_left (by omega) (by omega)
      omega
    have h5 : i / j < 0 := Int.ediv_neg_of_neg_of_pos hi hj
    omega
  · have h4 : i / j ≤ i := Int.ediv_le_self _ (by omega)
    have h5 : 0 ≤ i / j := Int.ediv_nonneg (by omega) (by omega)
    omega
theorem Sz.rng {n : Nat} {i j : Int} (h0 : 0 ≤ i) (h1 : i < j) (h : j.natAbs ≤ 2 ^ n) : Sz n i := by
  unfold Sz; omega
theorem Sz.md {n : Nat} {i j : Int} (h0 : 0 ≤ i) (h1 : i < j) (h : Sz n j) : Sz n i := by
  unfold Sz at *; omega
theorem Sz.or {n : Nat} {x i j : Int} (h : x = i ∨ x = j) (hi : Sz n i) (hj : Sz n j) : Sz n x := by rcases h with rfl | rfl <;> assumption
theorem Sz.abs {n : Nat} {x i : Int} (h : Sz n i) (hx : x = if i < 0 then -i else i) : Sz n x := by
  refine h.le ?_; split at hx <;> omega
theorem mul0 {i j : Int} (h : -(2 ^ 64) < i ∧ i < 2 ^ 64) : CMul i j ∨ CMulX i j := .inl (.inl h)
theorem mul1 {i j : Int} (h : -(2 ^ 64) < j ∧ j < 2 ^ 64) : CMul i j ∨ CMulX i j := .inl (.inr h)
theorem shl0 {i j : Int} (h : 0 ≤ j) (h' : j ≤ 1000000) (h2 : i.natAbs < 2 ^ 64) : CPow i j ∨ CShl i j := .inl ⟨h, h', h2⟩
theorem szW {i : Int} (h : -(2 ^ 200) < i ∧ i < 2 ^ 200) : Sz 200 i := by unfold Sz; omega
theorem mulW {i j : Int} (h : -(2 ^ 200) < i ∧ i < 2 ^ 200) (h' : -(2 ^ 200) < j ∧ j < 2 ^ 200) : CMul i j ∨ CMulX i j := .inr (mulx_ok (szW h) (szW h') (by decide))
theorem divW {i j : Int} (h : 0 < j) (h' : j < 2 ^ 200) : CDivW i j := wide_div h (b := 200) (szW ⟨by omega, h'⟩) (by decide) (by decide)
theorem shlW {i j : Int} (h : 0 ≤ j) (h' : j ≤ 1000) (h2 : -(2 ^ 200) < i ∧ i < 2 ^ 200) : CPow i j ∨ CShl i j := by
  obtain ⟨n, rfl⟩ := Int.eq_ofNat_of_zero_le h
  exact .inr (shl_ok (n := 200) (szW h2) (by omega))
theorem mulx {a b : Nat} {i j : Int} (h : Sz a i) (h' : Sz b j) (hl : a + b ≤ 134217728) : CMulX i j := mulx_ok h h' hl
theorem divz {b : Nat} {i j : Int} (h : 0 < j) (hb : Sz b j) (h0 : 0 < b) (h9 : b ≤ 9000) : CDivW i j := wide_div h hb h0 h9
theorem divzF {b : Nat} {j : Int} (h : j ≠ 0) (hb : Sz b j) (h0 : 0 < b) (h9 : b ≤ 9000) : j ≠ 0 ∧ j.natAbs.log2 < 9000 := ⟨h, Nat.lt_of_lt_of_le (PySem.Flt.log2_lt_of h0 hb) h9⟩
theorem eqdd {P P' : Prop} [Decidable P] [Decidable P'] {Q : VK} {H : Hp} (h : P ↔ P') (q : Q (.bl (decide P')) H) : Q (.bl (decide P)) H := by rw [decide_eq_decide.mpr h]; exact q
theorem eqeqb {i j : Bool} {Q : VK} {H : Hp} (h : i = j) (q : Q (.bl true) H) : Q (.bl (decide (V.bl i = V.bl j))) H := by rw [decide_eq_true (by rw [h])]; exact q
theorem ix_tupK {X : Cx} {K : PySem.W.Frag} (h : X.K = K) : IxR X (rIxT K) := h ▸ ix_tup
theorem ix_listK {X : Cx} {K : PySem.W.Frag} (h : X.K = K) : IxR X (rIxL K) := h ▸ ix_list
theorem call_lenK {X : Cx} {K : PySem.W.Frag} (h : X.K = K) : CallR X (.builtin "len") (fun xs H Q => ∃ p ys, xs = [.ref p] ∧ (SqL K H p ys ∨ SqT K H p ys) ∧ Q (.int ys.length) H) := h ▸ call_len_seq
theorem tyes {σ : L2.St} {H : Hp} {Q : Bool → Hp → Prop} (h : Q true H) : tYes σ H Q := h
theorem dmz {a : Nat} {i j : Int} (h : 0 < j) (hz : Sz a i) (ha : a ≤ 4000) : CDivP i j := divp_ok h (by have := PyProof.Rows.intBits_le hz; omega)
theorem dms {i j : Int} (h : 0 < j) (h0 : -(2 ^ 64) < i) (h1 : i < 2 ^ 64) : CDivP i j := dmz (a := 64) h (by unfold Sz; omega) (by decide)
theorem shlz {a n : Nat} {i j : Int} (h : Sz a i) (h0 : 0 ≤ j) (hj : j ≤ n) (hn : a + n ≤ 134217728) : CShl i j := by
  obtain ⟨k, rfl⟩ : ∃ k : Nat, j = k := ⟨j.toNat, by omega⟩
  exact shl_ok h (by omega)
/-- all but the object at b is as it was -/
def Fm (b : Addr) (H H' : Hp) : Prop := ∀ q o, q ≠ b → H q = some o → H' q = some o
theorem at_fmT {b p : Addr} {xs ys : List V} (f : Fm b H H') (hb : H b = some (.lst ys)) (h : H p = some (.tup xs)) : H' p = some (.tup xs) := f _ _ (ne_tl h hb) h
theorem Fm.refl {b : Addr} {H : Hp} : Fm b H H := fun _ _ _ h => h
theorem Fm.same {b : Addr} {H H1 H2 : Hp} (a : Fm b H H1) (s : Same H1 H2) : Fm b H H2 := fun q o n h => s q o (a q o n h)
theorem Fm.mut {b : Addr} {H H1 : Hp} {u : HO} (a : Fm b H H1) : Fm b H (upd H1 b u) := fun q o n h => by rw [upd_ne n]; exact a q o n h
theorem Fm.mutF {b c : Addr} {H H1 : Hp} {u : HO} (a : Fm b H H1) (hc : H c = none) : Fm b H (upd H1 c u) := fun q o n h => by rw [upd_ne (ne_of_none h hc)]; exact a q o n h
theorem Fm.trans {b : Addr} {H H1 H2 : Hp} (a : Fm b H H1) (s : Fm b H1 H2) : Fm b H H2 := fun q o n h => s q o n (a q o n h)
theorem Fm.frameF {b c : Addr} {H H1 H2 : Hp} (a : Fm b H H1) (s : Fm c H1 H2) (hc : H c = none) : Fm b H H2 := fun q o n h => s q o (ne_of_none h hc) (a q o n h)
theorem Fm.free {b : Addr} {H H' : Hp} (a : Fm b H H') {o : HO} {l : Addr} (hb : H' b = some o) (h : H' l = none) : H l = none := by
  cases e : H l with
  | none => rfl
  | some u =>
    have n : l ≠ b := fun z => by rw [z, hb] at h; cases h
    rw [a l u n e] at h; cases h
theorem same_frame {c : Addr} {H H1 H2 : Hp} (s : Same H H1) (f : Fm c H1 H2) (hc : H c = none) : Same H H2 := fun q o h => f q o (ne_of_none h hc) (s q o h)
/-! lists of ints -/
theorem szl {n : Nat} (h : n < 1000000) : n < sizeLine := Nat.lt_of_lt_of_le h (by decide)
theorem szle {n : Nat} (h : n ≤ 1000000) : n ≤ sizeLine := Nat.le_trans h (by decide)
section
variable {X : Cx} {K : PySem.W.Frag} {H H' : Hp} {Q : VK} {a : Addr}
theorem ap_ints {xs : List Int} {e : Int} (h : H a = some (.lst (xs.map V.int ++ [.int e]))) : H a = some (.lst ((xs ++ [e]).map V.int)) := by
  rw [List.map_append]; exact h
theorem set_ints {xs : List Int} {e : Int} {j : Nat} (h : H a = some (.lst ((xs.map V.int).set j (.int e)))) : H a = some (.lst ((xs.set j e).map V.int)) := by
  rw [List.map_set]; exact h
theorem dpAll_ints : ∀ xs : List Int, DpAll K H (xs.map V.int) (xs.map PyData.int)
  | [] => .nil
  | x :: xs => .cons (.int x) (dpAll_ints xs)
theorem dp_ints {xs : List Int} (h : SqL K H a (xs.map V.int)) : Dp K H (.ref a) (.list (xs.map PyData.int)) := .lst h (dpAll_ints xs)
theorem layAll_ints : ∀ xs : List Int, PyData.canLayAll0 (xs.map PyData.int) = true
  | [] => rfl
  | x :: xs => by
    rw [List.map_cons, PyData.canLayAll0, layAll_ints xs]
    rfl
theorem depAll_ints : ∀ xs : List Int, PyData.depthAll (xs.map PyData.int) = 0
  | [] => rfl
  | x :: xs => by
    rw [List.map_cons, PyData.depthAll, depAll_ints xs]
    rfl
theorem shaped_ints (xs : List Int) : SeqAt.shaped (.list (xs.map PyData.int)) = true := by
  unfold SeqAt.shaped
  rw [PyData.canLay0, PyData.depth, layAll_ints, depAll_ints]
  rfl
theorem shp {d : PyData} (h : PyData.canLay0 d = true) (g : PyData.depth d ≤ 64) : SeqAt.shaped d = true := by
  unfold SeqAt.shaped; rw [h]; simpa using g
theorem eqvAll_ints : ∀ xs ys : List Int, PyData.eqvAll (xs.map PyData.int) (ys.map PyData.int) = decide (xs = ys)
  | [], [] => rfl
  | [], _ :: _ => rfl
  | _ :: _, [] => rfl
  | x :: xs, y :: ys => by
    rw [List.map_cons, List.map_cons, PyData.eqvAll, PyData.eqv, eqvAll_ints xs ys]
    by_cases h : x = y
    · by_cases h2 : xs = ys <;> simp [h, h2]
    · simp [h]
theorem eqv_ints (xs ys : List Int) : PyData.eqv (.list (xs.map PyData.int)) (.list (ys.map PyData.int)) = decide (xs = ys) := by
  rw [PyData.eqv]; exact eqvAll_ints xs ys
theorem op_eqI (hu : X.A.units + 64 < cLine) : OpR X (compareOp .Eq) (fun x y H Q => ∃ (a b : Addr) (xs ys : List Int), x = .ref a ∧ y = .ref b ∧ SqL X.K H a (xs.map V.int) ∧ SqL X.K H b (ys.map V.int) ∧ Q (.bl (decide (xs = ys))) H) := by
  intro pins s σ H x y v u Q I rx ry h
  obtain ⟨a, b, xs, ys, rfl, rfl, h1, h2, q⟩ := h
  refine op_eqD hu pins s σ H _ _ v u Q I rx ry ⟨_, _, dp_ints h1, dp_ints h2, shaped_ints _, shaped_ints _, ?_⟩
  rw [eqv_ints]; exact q
theorem op_neI (hu : X.A.units + 64 < cLine) : OpR X (compareOp .NotEq) (fun x y H Q => ∃ (a b : Addr) (xs ys : List Int), x = .ref a ∧ y = .ref b ∧ SqL X.K H a (xs.map V.int) ∧ SqL X.K H b (ys.map V.int) ∧ Q (.bl (!decide (xs = ys))) H) := by
  intro pins s σ H x y v u Q I rx ry h
  obtain ⟨a, b, xs, ys, rfl, rfl, h1, h2, q⟩ := h
  refine op_neD hu pins s σ H _ _ v u Q I rx ry ⟨_, _, dp_ints h1, dp_ints h2, shaped_ints _, shaped_ints _, ?_⟩
  rw [eqv_ints]; exact q
theorem dpT_ints {xs : List Int} (h : SqT K H a (xs.map V.int)) : Dp K H (.ref a) (.tuple (xs.map PyData.int)) := .tup h (dpAll_ints xs)
theorem shapedT_ints (xs : List Int) : SeqAt.shaped (.tuple (xs.map PyData.int)) = true := by
  unfold SeqAt.shaped
  rw [PyData.canLay0, PyData.depth, layAll_ints, depAll_ints]
  rfl
theorem eqvT_ints (xs ys : List Int) : PyData.eqv (.tuple (xs.map PyData.int)) (.tuple (ys.map PyData.int)) = decide (xs = ys) := by
  rw [PyData.eqv]; exact eqvAll_ints xs ys
theorem op_eqT (hu : X.A.units + 64 < cLine) : OpR X (compareOp .Eq) (fun x y H Q => ∃ (a b : Addr) (xs ys : List Int), x = .ref a ∧ y = .ref b ∧ SqT X.K H a (xs.map V.int) ∧ SqT X.K H b (ys.map V.int) ∧ Q (.bl (decide (xs = ys))) H) := by
  intro pins s σ H x y v u Q I rx ry h
  obtain ⟨a, b, xs, ys, rfl, rfl, h1, h2, q⟩ := h
  refine op_eqD hu pins s σ H _ _ v u Q I rx ry ⟨_, _, dpT_ints h1, dpT_ints h2, shapedT_ints _, shapedT_ints _, ?_⟩
  rw [eqvT_ints]; exact q
theorem op_neT (hu : X.A.units + 64 < cLine) : OpR X (compareOp .NotEq) (fun x y H Q => ∃ (a b : Addr) (xs ys : List Int), x = .ref a ∧ y = .ref b ∧ SqT X.K H a (xs.map V.int) ∧ SqT X.K H b (ys.map V.int) ∧ Q (.bl (!decide (xs = ys))) H) := by
  intro pins s σ H x y v u Q I rx ry h
  obtain ⟨a, b, xs, ys, rfl, rfl, h1, h2, q⟩ := h
  refine op_neD hu pins s σ H _ _ v u Q I rx ry ⟨_, _, dpT_ints h1, dpT_ints h2, shapedT_ints _, shapedT_ints _, ?_⟩
  rw [eqvT_ints]; exact q
theorem flat_ints (xs : List Int) : (xs.map V.int).all flatV = true := by
  rw [List.all_map, List.all_eq_true]; intro x _; rfl
theorem inV_ints (i : Int) (xs : List Int) : inV (.int i) (xs.map V.int) = decide (i ∈ xs) := by
  unfold inV
  rw [Bool.eq_iff_iff, List.any_map, List.any_eq_true, decide_eq_true_eq]
  constructor
  · rintro ⟨y, hy, e⟩
    have : (y == i) = true := e
    rw [← beq_iff_eq.mp this]; exact hy
  · exact fun h => ⟨i, h, beq_self_eq_true i⟩
theorem op_inI : OpR X (compareOp .In) (fun x y H Q => ∃ (i : Int) (p : Addr) (xs : List Int), x = .int i ∧ y = .ref p ∧ SqL X.K H p (xs.map V.int) ∧ Q (.bl (decide (i ∈ xs))) H) := by
  intro pins s σ H x y v u Q I rx ry h
  obtain ⟨i, p, xs, rfl, rfl, hs, q⟩ := h
  refine op_in_seq pins s σ H _ _ v u Q I rx ry ⟨_, _, rfl, .inl hs, rfl, flat_ints xs, ?_⟩
  rw [if_neg Bool.false_ne_true, inV_ints]
  exact q
theorem op_notInI : OpR X (compareOp .NotIn) (fun x y H Q => ∃ (i : Int) (p : Addr) (xs : List Int), x = .int i ∧ y = .ref p ∧ SqL X.K H p (xs.map V.int) ∧ Q (.bl (!decide (i ∈ xs))) H) := by
  intro pins s σ H x y v u Q I rx ry h
  obtain ⟨i, p, xs, rfl, rfl, hs, q⟩ := h
  refine op_notIn_seq pins s σ H _ _ v u Q I rx ry ⟨_, _, rfl, .inl hs, rfl, flat_ints xs, ?_⟩
  rw [if_pos rfl, inV_ints]
  exact q
theorem ixN_nat {n j : Nat} (h : j < n) : ixN n (j : Int) = some j := by
  unfold ixN
  rw [if_pos (by omega), if_pos (by omega)]; simp
theorem ixlast {xs : List Int} (h : SqL K H a (xs.map V.int)) (h0 : 0 < xs.length) (q : ∀ y, xs.getLast? = some y → Q (.int y) H) : rIxL K (.ref a) (.int (-1)) H Q := by
  obtain ⟨y, hy⟩ : ∃ y, xs.getLast? = some y := by
    cases e : xs.getLast? with
    | none => rw [List.getLast?_eq_none_iff] at e; subst e; simp at h0
    | some y => exact ⟨y, rfl⟩
  refine ⟨a, _, _, .int y, rfl, rfl, h, ?_, q y hy⟩
  obtain ⟨ys, rfl⟩ := List.getLast?_eq_some_iff.mp hy
  rw [List.map_append]
  exact atI_last _ _
end
/-! items -/
section
variable {K : PySem.W.Frag} {H : Hp} {Q : VK} {a : Addr}
theorem ixi {xs : List Int} {i : Int} (h : SqL K H a (xs.map V.int)) (h0 : 0 ≤ i) (h1 : i < xs.length) (q : ∀ y, xs[i.toNat]? = some y → Q (.int y) H) : rIxL K (.ref a) (.int i) H Q := by
  obtain ⟨n, rfl⟩ : ∃ n : Nat, i = n := ⟨i.toNat, by omega⟩
  have hl : n < xs.length := by omega
  refine ⟨a, _, _, .int (xs[n]'hl), rfl, rfl, h, atI_nat ?_, q _ (List.getElem?_eq_getElem hl)⟩
  rw [List.getElem?_map, List.getElem?_eq_getElem hl]
  all_goals rfl
theorem inV_int {y : Int} {xs : List Int} (h : y ∈ xs) : (if false = true then !(inV (.int y) (xs.map V.int)) else inV (.int y) (xs.map V.int)) = true := by
  rw [if_neg Bool.false_ne_true]
  unfold inV
  rw [List.any_map, List.any_eq_true]
  exact ⟨y, h, by simp [eqV]⟩
theorem ixn {xs : List Int} {i : Int} (h : SqL K H a (xs.map V.int)) (h0 : 0 ≤ i) (h1 : i < xs.length) (q : ∀ y, xs[i.toNat]? = some y → Q (.int y) H) : rIxL K (.ref a) (.int i) H Q := ixi h h0 h1 q
theorem ixi5 {x0 x1 x2 x3 x4 : Int} {i : Int} (h : SqL K H a [.int x0, .int x1, .int x2, .int x3, .int x4]) (hi : 0 ≤ i ∧ i < 5) (q : ∀ y, ((i = 0 ∧ y = x0) ∨ (i = 1 ∧ y = x1) ∨ (i = 2 ∧ y = x2) ∨ (i = 3 ∧ y = x3) ∨ (i = 4 ∧ y = x4)) → Q (.int y) H) : rIxL K (.ref a) (.int i) H Q := by
  refine ixi (xs := [x0, x1, x2, x3, x4]) h hi.1 hi.2 fun y hy => q y ?_
  have : i = 0 ∨ i = 1 ∨ i = 2 ∨ i = 3 ∨ i = 4 := by omega
  rcases this with rfl | rfl | rfl | rfl | rfl <;> simp at hy <;> omega
theorem ixs3 {x0 x1 x2 : Str} {i : Int} (h : SqL K H a [.str x0, .str x1, .str x2]) (hi : 0 ≤ i ∧ i < 3) (q : ∀ y, ((i = 0 ∧ y = x0) ∨ (i = 1 ∧ y = x1) ∨ (i = 2 ∧ y = x2)) → Q (.str y) H) : rIxL K (.ref a) (.int i) H Q := by
  obtain ⟨n, rfl⟩ : ∃ n : Nat, i = n := ⟨i.toNat, by omega⟩
  have : n = 0 ∨ n = 1 ∨ n = 2 := by omega
  rcases this with rfl | rfl | rfl
  · exact ⟨a, _, _, .str x0, rfl, rfl, h, atI_nat (j := 0) rfl, q _ (by simp)⟩
  · exact ⟨a, _, _, .str x1, rfl, rfl, h, atI_nat (j := 1) rfl, q _ (by simp)⟩
  · exact ⟨a, _, _, .str x2, rfl, rfl, h, atI_nat (j := 2) rfl, q _ (by simp)⟩
theorem gturn {n i : Nat} {σ : L2.St} {R : L2.St → Hp → Prop} (h : ∀ x : Int, x = (i : Int) → gName n (.int x) σ H R) : gName n (.int (0 + (i : Int))) σ H R := h _ (by omega)
theorem ints_get {xs : List Int} {i : Nat} {v : V} (h : (xs.map V.int)[i]? = some v) : ∃ n, v = .int n ∧ xs[i]? = some n := by
  rw [List.getElem?_map] at h
  cases e : xs[i]? with
  | none => rw [e] at h; cases h
  | some n => rw [e] at h; exact ⟨n, (Option.some.inj h).symm, rfl⟩
/-- the ints a .. b - 1 -/
def rgI (a b : Int) : List Int := (List.range (b - a).toNat).map fun i => a + (i : Nat)
theorem rg_at {a : Addr} {x y : Int} : upd H a (.lst (rgV x y)) a = some (.lst ((rgI x y).map V.int)) := by
  rw [upd_same]
  unfold rgV rgI
  rw [List.map_map]
  rfl
theorem rgI_mem {n y : Int} (h : y ∈ rgI 0 n) : 0 ≤ y ∧ y < n := by
  obtain ⟨j, hj, rfl⟩ := List.mem_map.mp h
  have := List.mem_range.mp hj
  omega
theorem rgI_rng {a b y : Int} (h : y ∈ rgI a b) : a ≤ y ∧ y < b := by
  obtain ⟨j, hj, rfl⟩ := List.mem_map.mp h
  have := List.mem_range.mp hj
  omega
theorem cat_at {a : Addr} {xs ys : List Int} : upd H a (.lst (xs.map V.int ++ ys.map V.int)) a = some (.lst ((xs ++ ys).map V.int)) := by
  rw [upd_same, List.map_append]
theorem szc {xs ys : List Int} {n : Nat} (h : xs.length + ys.length ≤ n) (hn : n ≤ sizeLine) : (xs.map V.int).length + (ys.map V.int).length ≤ sizeLine := by
  rw [List.length_map, List.length_map]; omega
/-! an if whose two ways meet again in one state -/
theorem join {tc : TT} {t1 t2 u : TS} {D : Ends} {σ : L2.St} {H : Hp} (Pv : L2.St → Hp → Prop) (h1 : ∀ N : L2.St → Hp → Prop, (∀ σ2 H2, Pv σ2 H2 → N σ2 H2) → tIfS tc t1 t2 { D with nx := N } σ H) (h2 : ∀ σ2 H2, Pv σ2 H2 → u D σ2 H2) : tSeq (tIfS tc t1 t2) u D σ H := h1 _ h2
theorem setc {i : Nat} {te : TE} {u : TS} {D : Ends} {σ : L2.St} {H : Hp} (v : V) (h : u D (σ.set i (some v)) H) (e : ∀ Q : VK, Q v H → te σ H Q := by exact fun _ z => z) : tSeq (tAsg te (gName i)) u D σ H := e _ h
theorem gnm {i : Nat} {v : V} {σ : L2.St} {H : Hp} {N bk ct : L2.St → Hp → Prop} {rt : VK} (h : N (σ.set i (some v)) H) : gName i v σ H (Ends.nx ⟨N, rt, bk, ct⟩) := h
theorem gnmS {i : Nat} {v : V} {σ σ' : L2.St} {H : Hp} {N bk ct : L2.St → Hp → Prop} {rt : VK} (e : σ.set i (some v) = σ') (h : N σ' H) : gName i v σ H (Ends.nx ⟨N, rt, bk, ct⟩) := by subst e; exact h
theorem tnx {σ : L2.St} {H : Hp} {N bk ct : L2.St → Hp → Prop} {rt : VK} (h : N σ H) : tNext ⟨N, rt, bk, ct⟩ σ H := h
theorem joinL {tc : TT} {t1 t2 : TS} {D : Ends} {σ : L2.St} {H : Hp} (Pv : L2.St → Hp → Prop) (h1 : ∀ N : L2.St → Hp → Prop, (∀ σ2 H2, Pv σ2 H2 → N σ2 H2) → tIfS tc t1 t2 { D with nx := N } σ H) (h2 : ∀ σ2 H2, Pv σ2 H2 → D.nx σ2 H2) : tIfS tc t1 t2 D σ H := h1 _ h2
/-! a for over a written list, turn by turn -/
def unr (K : PySem.W.Frag) (a : Addr) (xs : List V) (g : TG) (tb : TS) (D : Ends) : List V → L2.St → Hp → Prop
  | [], σ, H => SqL K H a xs ∧ D.nx σ H
  | x :: r, σ, H => SqL K H a xs ∧ g x σ H fun σ2 H2 => tb { D with nx := unr K a xs g tb D r, ct := unr K a xs g tb D r, bk := D.nx } σ2 H2
theorem un_start {xs : List V} {g : TG} {tb : TS} {D : Ends} {σ : L2.St} (h : unr K a xs g tb D xs σ H) :
    ∃ W : Nat → Nat → L2.St → Hp → Prop, (∃ m, W 0 m σ H) ∧ ∀ i m σ H, W i m σ H →
      ((Itl K a).stop i H ∧ D.nx σ H) ∨ ((Itl K a).go i H ∧ ∃ N : L2.St → Hp → Prop, (∀ σ' H', N σ' H' → ∃ m', m' < m ∧ W (i + 1) m' σ' H') ∧ ∀ x H', (Itl K a).yld i H x H' → g x σ H' fun σ2 H2 => tb { D with nx := N, ct := N, bk := D.nx } σ2 H2) := by
  refine ⟨fun i m σ H => m = xs.length - i ∧ i ≤ xs.length ∧ unr K a xs g tb D (xs.drop i) σ H, ⟨xs.length, by simp, Nat.zero_le _, h⟩, ?_⟩
  rintro i m σ H ⟨rfl, hi, p⟩
  by_cases hlt : i < xs.length
  · rw [List.drop_eq_getElem_cons hlt] at p
    obtain ⟨q, p⟩ := p
    refine .inr ⟨⟨xs, xs[i], q, by simp [hlt]⟩, unr K a xs g tb D (xs.drop (i + 1)), fun σ' H' p' => ⟨xs.length - (i + 1), by omega, rfl, hlt, p'⟩, fun x H' y => ?_⟩
    obtain ⟨e, y⟩ := y
    subst e
    have e2 := y xs q
    rw [List.getElem?_eq_getElem hlt] at e2
    cases e2
    exact p
  · have e : i = xs.length := by omega
    subst e
    rw [List.drop_length] at p
    obtain ⟨q, p⟩ := p
    exact .inl ⟨⟨xs, q, Nat.le_refl _⟩, p⟩
end
/-! a comprehension over a written list, turn by turn -/
def unlc (K : PySem.W.Frag) (a : Addr) (xs : List V) (g : TG) (tt : TT) (te : TE) (σ : L2.St) (vs : List Nat) (D : Addr) (Qd : Hp → Prop) : List V → Hp → Prop
  | [], H => SqL K H a xs ∧ Qd H
  | x :: r, H => SqL K H a xs ∧ g x (wipe σ vs) H fun σ2 H2 => wipe σ2 vs = wipe σ vs ∧ tt σ2 H2 fun b H3 =>
      if b = true then te σ2 H3 fun y H4 => ∃ acc, H4 D = some (.lst acc) ∧ acc.length < sizeLine ∧ unlc K a xs g tt te σ vs D Qd r (upd H4 D (.lst (acc ++ [y]))) else unlc K a xs g tt te σ vs D Qd r H3
theorem unlc_start {K : PySem.W.Frag} {a : Addr} {xs : List V} {g : TG} {tt : TT} {te : TE} {σ : L2.St} {vs : List Nat} {H1 : Hp} {D : Addr} {Qd : Hp → Prop} (h : unlc K a xs g tt te σ vs D Qd xs (upd H1 D (.lst []))) :
    ∃ W : Nat → Nat → Hp → Prop, (∃ m, W 0 m (upd H1 D (.lst []))) ∧ ∀ i m H, W i m H →
      ((Itl K a).stop i H ∧ Qd H) ∨ ((Itl K a).go i H ∧ ∃ Nx : Hp → Prop, (∀ H', Nx H' → ∃ m', m' < m ∧ W (i + 1) m' H') ∧ ∀ x H', (Itl K a).yld i H x H' → g x (wipe σ vs) H' fun σ2 H2 => wipe σ2 vs = wipe σ vs ∧ tt σ2 H2 fun b H3 =>
        if b = true then te σ2 H3 fun y H4 => ∃ acc, H4 D = some (.lst acc) ∧ acc.length < sizeLine ∧ Nx (upd H4 D (.lst (acc ++ [y]))) else Nx H3) := by
  refine ⟨fun i m H => m = xs.length - i ∧ i ≤ xs.length ∧ unlc K a xs g tt te σ vs D Qd (xs.drop i) H, ⟨xs.length, by simp, Nat.zero_le _, h⟩, ?_⟩
  rintro i m H ⟨rfl, hi, p⟩
  by_cases hlt : i < xs.length
  · rw [List.drop_eq_getElem_cons hlt] at p
    obtain ⟨q, p⟩ := p
    refine .inr ⟨⟨xs, xs[i], q, by simp [hlt]⟩, unlc K a xs g tt te σ vs D Qd (xs.drop (i + 1)), fun H' p' => ⟨xs.length - (i + 1), by omega, rfl, hlt, p'⟩, fun x H' y => ?_⟩
    obtain ⟨e, y⟩ := y
    subst e
    have e2 := y xs q
    rw [List.getElem?_eq_getElem hlt] at e2
    cases e2
    exact p
  · have e : i = xs.length := by omega
    subst e
    rw [List.drop_length] at p
    obtain ⟨q, p⟩ := p
    exact .inl ⟨⟨xs, q, Nat.le_refl _⟩, p⟩
/-- a def that stands behind the top -/
structure Dk (K : PySem.W.Frag) (mg : Str → Option Value) (x qual : Str) (st : Stmt) (ps : List Str) : Type where
  f : Addr
  fd : FuncData
  F : Fun K x qual st f fd
  b : Binds K fd ps []
  m : mg x = some (.ref f)
end Ow

namespace Ow
open PySem PySem.Spec PyProof.Rows L2
/-! ### lists of tuples of ints -/
def g2 (r : Int × Int) : List Int := [r.1, r.2]
def g3 (r : Int × Int × Int) : List Int := [r.1, r.2.1, r.2.2]
def g4 (r : Int × Int × Int × Int) : List Int := [r.1, r.2.1, r.2.2.1, r.2.2.2]
def g5 (r : Int × Int × Int × Int × Int) : List Int := [r.1, r.2.1, r.2.2.1, r.2.2.2.1, r.2.2.2.2]
def g6 (r : Int × Int × Int × Int × Int × Int) : List Int := [r.1, r.2.1, r.2.2.1, r.2.2.2.1, r.2.2.2.2.1, r.2.2.2.2.2]
def g7 (r : Int × Int × Int × Int × Int × Int × Int) : List Int := [r.1, r.2.1, r.2.2.1, r.2.2.2.1, r.2.2.2.2.1, r.2.2.2.2.2.1, r.2.2.2.2.2.2]
abbrev Rw2 := List (Int × Int)
abbrev Rw3 := List (Int × Int × Int)
abbrev Rw4 := List (Int × Int × Int × Int)
abbrev Rw7 := List (Int × Int × Int × Int × Int × Int × Int)
inductive Rws {α : Type} (g : α → List Int) (H : Hp) : List V → List α → Prop
  | nil : Rws g H [] []
  | cons {p : Addr} {r : α} {vs : List V} {rs : List α} : H p = some (.tup ((g r).map V.int)) → Rws g H vs rs → Rws g H (.ref p :: vs) (r :: rs)
section
variable {α : Type} {g : α → List Int} {H H' : Hp} {vs : List V} {rs : List α}
theorem Rws.imp (h : ∀ p xs, H p = some (.tup xs) → H' p = some (.tup xs)) (R : Rws g H vs rs) : Rws g H' vs rs := by
  induction R with
  | nil => exact .nil
  | cons a _ ih => exact .cons (h _ _ a) ih
theorem Rws.same (s : Same H H') (R : Rws g H vs rs) : Rws g H' vs rs := R.imp fun _ _ e => s _ _ e
theorem Rws.new {p : Addr} {u : HO} (hp : H p = none) (R : Rws g H vs rs) : Rws g (upd H p u) vs rs := R.imp fun _ _ e => at_new hp e
theorem Rws.mut {b : Addr} {u : HO} {ys : List V} (hb : H b = some (.lst ys)) (R : Rws g H vs rs) : Rws g (upd H b u) vs rs := R.imp fun _ _ e => at_mut (ne_tl e hb) e
theorem Rws.fm {b : Addr} {ys : List V} (f : Fm b H H') (hb : H b = some (.lst ys)) (R : Rws g H vs rs) : Rws g H' vs rs := R.imp fun _ _ e => f _ _ (ne_tl e hb) e
theorem Rws.len (R : Rws g H vs rs) : vs.length = rs.length := by
  induction R with
  | nil => rfl
  | cons _ _ ih => rw [List.length_cons, List.length_cons, ih]
theorem Rws.app {ws : List V} {ts : List α} (R : Rws g H vs rs) (S : Rws g H ws ts) : Rws g H (vs ++ ws) (rs ++ ts) := by
  induction R with
  | nil => exact S
  | cons a _ ih => exact .cons a ih
theorem Rws.snoc {p : Addr} {r : α} (R : Rws g H vs rs) (h : H p = some (.tup ((g r).map V.int))) : Rws g H (vs ++ [.ref p]) (rs ++ [r]) := R.app (.cons h .nil)
theorem Rws.take (R : Rws g H vs rs) (n : Nat) : Rws g H (vs.take n) (rs.take n) := by
  induction R generalizing n with
  | nil => rw [List.take_nil, List.take_nil]; exact .nil
  | cons a _ ih => cases n with
    | zero => exact .nil
    | succ n => exact .cons a (ih n)
theorem Rws.drop (R : Rws g H vs rs) (n : Nat) : Rws g H (vs.drop n) (rs.drop n) := by
  induction R generalizing n with
  | nil => rw [List.drop_nil, List.drop_nil]; exact .nil
  | cons a b ih => cases n with
    | zero => exact .cons a b
    | succ n => exact ih n
theorem Rws.dropLast (R : Rws g H vs rs) : Rws g H vs.dropLast rs.dropLast := by
  rw [List.dropLast_eq_take, List.dropLast_eq_take, R.len]; exact R.take _
theorem Rws.rev (R : Rws g H vs rs) : Rws g H vs.reverse rs.reverse := by
  induction R with
  | nil => exact .nil
  | cons a _ ih => rw [List.reverse_cons, List.reverse_cons]; exact ih.snoc a
theorem Rws.get {i : Nat} {v : V} (R : Rws g H vs rs) (h : vs[i]? = some v) : ∃ p r, v = .ref p ∧ H p = some (.tup ((g r).map V.int)) ∧ rs[i]? = some r := by
  induction R generalizing i with
  | nil => cases h
  | cons a _ ih => cases i with
    | zero => cases h; exact ⟨_, _, rfl, a, rfl⟩
    | succ n => exact ih h
theorem Rws.at {i : Nat} (R : Rws g H vs rs) (h : i < rs.length) : ∃ p r, vs[i]? = some (.ref p) ∧ H p = some (.tup ((g r).map V.int)) ∧ rs[i]? = some r := by
  have hl := R.len
  obtain ⟨p, r, e, hp, hr⟩ := R.get (List.getElem?_eq_getElem (by omega : i < vs.length))
  exact ⟨p, r, by rw [List.getElem?_eq_getElem (by omega : i < vs.length), e], hp, hr⟩
def rowD (g : α → List Int) (r : α) : PyData := .tuple ((g r).map PyData.int)
theorem Rws.dps {K : PySem.W.Frag} (R : Rws g H vs rs) : DpAll K H vs (rs.map (rowD g)) := by
  induction R with
  | nil => exact .nil
  | cons a _ ih => exact .cons (dpT_ints (SqT.of a)) ih
theorem layAll_rows (g : α → List Int) : ∀ rs : List α, PyData.canLayAll0 (rs.map (rowD g)) = true
  | [] => rfl
  | r :: rs => by
    rw [List.map_cons, PyData.canLayAll0, layAll_rows g rs, rowD, PyData.canLay0, layAll_ints]
    rfl
theorem depAll_rows (g : α → List Int) : ∀ rs : List α, PyData.depthAll (rs.map (rowD g)) ≤ 1
  | [] => Nat.zero_le _
  | r :: rs => by
    have := depAll_rows g rs
    rw [List.map_cons, PyData.depthAll, rowD, PyData.depth, depAll_ints]
    omega
theorem shaped_rows (g : α → List Int) (rs : List α) : SeqAt.shaped (.list (rs.map (rowD g))) = true := by
  unfold SeqAt.shaped
  rw [PyData.canLay0, PyData.depth, layAll_rows]
  have := depAll_rows g rs
  simp only [Bool.true_and, decide_eq_true_eq]
  omega
theorem eqvAll_rows (g : α → List Int) : ∀ xs ys : List α, PyData.eqvAll (xs.map (rowD g)) (ys.map (rowD g)) = decide (xs.map g = ys.map g)
  | [], [] => rfl
  | [], _ :: _ => rfl
  | _ :: _, [] => rfl
  | x :: xs, y :: ys => by
    rw [List.map_cons, List.map_cons, PyData.eqvAll, rowD, rowD, eqvT_ints, eqvAll_rows g xs ys, List.map_cons, List.map_cons]
    by_cases h : g x = g y
    · by_cases h2 : xs.map g = ys.map g <;> simp [h, h2]
    · simp [h]
end
theorem op_eqR {X : Cx} (hu : X.A.units + 64 < cLine) {α : Type} (g : α → List Int) : OpR X (compareOp .Eq) (fun x y H Q => ∃ (a b : Addr) (vs ws : List V) (xs ys : List α), x = .ref a ∧ y = .ref b ∧ SqL X.K H a vs ∧ SqL X.K H b ws ∧ Rws g H vs xs ∧ Rws g H ws ys ∧ Q (.bl (decide (xs.map g = ys.map g))) H) := by
  intro pins s σ H x y v u Q I rx ry h
  obtain ⟨a, b, vs, ws, xs, ys, rfl, rfl, h1, h2, r1, r2, q⟩ := h
  refine op_eqD hu pins s σ H _ _ v u Q I rx ry ⟨_, _, .lst h1 r1.dps, .lst h2 r2.dps, shaped_rows _ _, shaped_rows _ _, ?_⟩
  rw [PyData.eqv, eqvAll_rows]; exact q
theorem op_neR {X : Cx} (hu : X.A.units + 64 < cLine) {α : Type} (g : α → List Int) : OpR X (compareOp .NotEq) (fun x y H Q => ∃ (a b : Addr) (vs ws : List V) (xs ys : List α), x = .ref a ∧ y = .ref b ∧ SqL X.K H a vs ∧ SqL X.K H b ws ∧ Rws g H vs xs ∧ Rws g H ws ys ∧ Q (.bl (!decide (xs.map g = ys.map g))) H) := by
  intro pins s σ H x y v u Q I rx ry h
  obtain ⟨a, b, vs, ws, xs, ys, rfl, rfl, h1, h2, r1, r2, q⟩ := h
  refine op_neD hu pins s σ H _ _ v u Q I rx ry ⟨_, _, .lst h1 r1.dps, .lst h2 r2.dps, shaped_rows _ _, shaped_rows _ _, ?_⟩
  rw [PyData.eqv, eqvAll_rows]; exact q
section
variable {K : PySem.W.Frag} {H : Hp} {Q : VK} {a : Addr} {α : Type} {g : α → List Int} {vs : List V} {rs : List α}
theorem ixrow {i : Int} (h : SqL K H a vs) (R : Rws g H vs rs) (h0 : 0 ≤ i) (h1 : i < rs.length) (q : ∀ p r, rs[i.toNat]? = some r → H p = some (.tup ((g r).map V.int)) → Q (.ref p) H) : rIxL K (.ref a) (.int i) H Q := by
  obtain ⟨n, rfl⟩ : ∃ n : Nat, i = n := ⟨i.toNat, by omega⟩
  obtain ⟨p, r, e, hp, hr⟩ := R.at (i := n) (by omega)
  exact ⟨a, _, _, .ref p, rfl, rfl, h, atI_nat e, q p r hr hp⟩
theorem ixrowL (h : SqL K H a vs) (R : Rws g H vs rs) (h1 : 0 < rs.length) (q : ∀ p r, rs.getLast? = some r → H p = some (.tup ((g r).map V.int)) → Q (.ref p) H) : rIxL K (.ref a) (.int (-1)) H Q := by
  obtain ⟨p, r, e, hp, hr⟩ := R.at (i := rs.length - 1) (by omega)
  have hl := R.len
  rw [← List.getLast?_eq_getElem?] at hr
  rw [← hl, ← List.getLast?_eq_getElem?] at e
  refine ⟨a, _, _, .ref p, rfl, rfl, h, ?_, q p r hr hp⟩
  obtain ⟨ys, rfl⟩ := List.getLast?_eq_some_iff.mp e
  exact atI_last _ _
end
/-! ### slices -/
theorem cutV_take {xs : List V} {k : Int} (h : 0 ≤ k) : cutV xs none (some k) = xs.take k.toNat := by
  obtain ⟨n, rfl⟩ := Int.eq_ofNat_of_zero_le h
  unfold cutV
  rw [HT.sIx_none, HT.sIx_nat, List.drop_zero, Nat.sub_zero, Int.toNat_natCast]
  by_cases c : n ≤ xs.length
  · rw [Nat.min_eq_left c]
  · rw [Nat.min_eq_right (by omega), List.take_of_length_le (by omega), List.take_of_length_le (by omega)]
theorem cutV_drop {xs : List V} {k : Int} (h : 0 ≤ k) : cutV xs (some k) none = xs.drop k.toNat := by
  obtain ⟨n, rfl⟩ := Int.eq_ofNat_of_zero_le h
  unfold cutV
  rw [HT.sIx_none, HT.sIx_nat, Int.toNat_natCast]
  by_cases c : n ≤ xs.length
  · rw [Nat.min_eq_left c]
    exact List.take_of_length_le (by rw [List.length_drop]; exact Nat.le_refl _)
  · rw [Nat.min_eq_right (by omega), List.drop_of_length_le (Nat.le_refl _), List.drop_of_length_le (by omega), List.take_nil]
theorem cutV_init {xs : List V} : cutV xs none (some (-1)) = xs.dropLast := by
  unfold cutV
  rw [HT.sIx_none, List.drop_zero, Nat.sub_zero, List.dropLast_eq_take]
  congr 1
  unfold HT.sIx
  show (if (-1 : Int) < 0 then ((-1 : Int) + (xs.length : Int)).toNat else min (-1 : Int).toNat xs.length) = _
  rw [if_pos (by decide)]; omega
theorem cutV_last {xs : List V} : cutV xs (some (-1)) none = xs.drop (xs.length - 1) := by
  unfold cutV
  rw [HT.sIx_none]
  have : HT.sIx xs.length 0 (some (-1)) = xs.length - 1 := by
    unfold HT.sIx
    show (if (-1 : Int) < 0 then ((-1 : Int) + (xs.length : Int)).toNat else min (-1 : Int).toNat xs.length) = _
    rw [if_pos (by decide)]; omega
  rw [this]
  exact List.take_of_length_le (by rw [List.length_drop]; exact Nat.le_refl _)
section
variable {H : Hp} {p : Addr}
theorem sl_take {xs : List Int} {k : Int} (h : 0 ≤ k) : upd H p (.lst (cutV (xs.map V.int) none (some k))) p = some (.lst ((xs.take k.toNat).map V.int)) := by
  rw [upd_same, cutV_take h, List.map_take]
theorem sl_drop {xs : List Int} {k : Int} (h : 0 ≤ k) : upd H p (.lst (cutV (xs.map V.int) (some k) none)) p = some (.lst ((xs.drop k.toNat).map V.int)) := by
  rw [upd_same, cutV_drop h, List.map_drop]
theorem sl_init {xs : List Int} : upd H p (.lst (cutV (xs.map V.int) none (some (-1)))) p = some (.lst (xs.dropLast.map V.int)) := by
  rw [upd_same, cutV_init, List.map_dropLast]
theorem sl_last {xs : List Int} : upd H p (.lst (cutV (xs.map V.int) (some (-1)) none)) p = some (.lst ((xs.drop (xs.length - 1)).map V.int)) := by
  rw [upd_same, cutV_last, List.length_map, List.map_drop]
theorem sl_rev {xs : List Int} : upd H p (.lst (xs.map V.int).reverse) p = some (.lst (xs.reverse.map V.int)) := by
  rw [upd_same, List.map_reverse]
theorem slv_take {xs : List V} {k : Int} (h : 0 ≤ k) : upd H p (.lst (cutV xs none (some k))) p = some (.lst (xs.take k.toNat)) := by rw [upd_same, cutV_take h]
theorem slv_drop {xs : List V} {k : Int} (h : 0 ≤ k) : upd H p (.lst (cutV xs (some k) none)) p = some (.lst (xs.drop k.toNat)) := by rw [upd_same, cutV_drop h]
theorem slv_init {xs : List V} : upd H p (.lst (cutV xs none (some (-1)))) p = some (.lst xs.dropLast) := by rw [upd_same, cutV_init]
theorem rep1_at {x k : Int} : upd H p (.lst (List.replicate k.toNat [V.int x]).flatten) p = some (.lst ((List.replicate k.toNat x).map V.int)) := by
  rw [upd_same]
  generalize k.toNat = n
  congr 2
  induction n with
  | zero => rfl
  | succ n ih => rw [List.replicate_succ, List.flatten_cons, ih]; rfl
theorem repn_at {xs : List Int} {k : Int} : upd H p (.lst (List.replicate k.toNat (xs.map V.int)).flatten) p = some (.lst ((List.replicate k.toNat xs).flatten.map V.int)) := by
  rw [upd_same]
  generalize k.toNat = n
  congr 2
  induction n with
  | zero => rfl
  | succ n ih => rw [List.replicate_succ, List.replicate_succ, List.flatten_cons, List.flatten_cons, ih, List.map_append]
end
/-! ### draws -/
inductive Drw : List Int → List Int → Prop
  | nil : Drw [] []
  | cons {r m : Int} {rs ms : List Int} : 0 ≤ r → r < m → Drw rs ms → Drw (r :: rs) (m :: ms)
theorem Drw.snoc {rs ms : List Int} {r m : Int} (h : Drw rs ms) (h0 : 0 ≤ r) (h1 : r < m) : Drw (rs ++ [r]) (ms ++ [m]) := by
  induction h with
  | nil => exact .cons h0 h1 .nil
  | cons a b _ ih => exact .cons a b ih
theorem Drw.turn {rs ms : List Int} {r m : Int} {i : Nat} (h : Drw rs (List.take i ms)) (hm : ms[i]? = some m) (h0 : 0 ≤ r) (h1 : r < m) : Drw (rs ++ [r]) (List.take (i + 1) ms) := by
  rw [List.take_add_one, hm]; exact h.snoc h0 h1
theorem Drw.len {rs ms : List Int} (h : Drw rs ms) : rs.length = ms.length := by
  induction h with
  | nil => rfl
  | cons _ _ _ ih => rw [List.length_cons, List.length_cons, ih]
theorem Drw.get {rs ms : List Int} {j : Nat} {m : Int} (h : Drw rs ms) (hm : ms[j]? = some m) : ∃ r, rs[j]? = some r ∧ 0 ≤ r ∧ r < m := by
  induction h generalizing j with
  | nil => cases hm
  | cons a b _ ih => cases j with
    | zero => cases hm; exact ⟨_, rfl, a, b⟩
    | succ j => exact ih hm
theorem Drw.bnd {rs ms : List Int} {j : Nat} {r : Int} (h : Drw rs ms) (hr : rs[j]? = some r) : ∃ m, ms[j]? = some m ∧ 0 ≤ r ∧ r < m := by
  have hl : j < ms.length := by rw [← h.len]; exact (List.getElem?_eq_some_iff.mp hr).1
  obtain ⟨r', e, a, b⟩ := h.get (List.getElem?_eq_getElem hl)
  rw [hr] at e; cases e
  exact ⟨_, List.getElem?_eq_getElem hl, a, b⟩
theorem Drw.all {rs ms : List Int} {i : Nat} (h : Drw rs (List.take i ms)) (e : i = (ms.map V.int).length) : Drw rs ms := by
  rw [List.length_map] at e; rw [e, List.take_length] at h; exact h
section
variable {K : PySem.W.Frag} {H : Hp} {Q : VK} {a : Addr}
theorem ixd {rs ms : List Int} {j : Nat} {m : Int} (h : SqL K H a (rs.map V.int)) (hd : Drw rs ms) (hm : ms[j]? = some m) (q : ∀ y, rs[j]? = some y → (0 ≤ y ∧ y < m) → Q (.int y) H) : rIxL K (.ref a) (.int j) H Q := by
  obtain ⟨r, e, b⟩ := hd.get hm
  refine ⟨a, _, _, .int r, rfl, rfl, h, atI_nat ?_, q r e b⟩
  rw [List.getElem?_map, e]; rfl
theorem gdown {n i : Nat} {lo : Int} {σ : L2.St} {R : L2.St → Hp → Prop} (h : ∀ x : Int, x = lo - (i : Int) → gName n (.int x) σ H R) : gName n (.int (lo + (i : Int) * (-1))) σ H R := h _ (by omega)
theorem gup {n i : Nat} {lo : Int} {σ : L2.St} {R : L2.St → Hp → Prop} (h : ∀ x : Int, x = lo + (i : Int) → gName n (.int x) σ H R) : gName n (.int (lo + (i : Int))) σ H R := h _ rfl
end
theorem bor_add {o a b : Int} {n : Nat} (h : o = Builtin.bitOr (a * 2 ^ n) b) (h0 : 0 ≤ a) (b0 : 0 ≤ b) (b1 : b < 2 ^ n) : o = a * 2 ^ n + b := by
  obtain ⟨x, rfl⟩ := Int.eq_ofNat_of_zero_le h0
  obtain ⟨y, rfl⟩ := Int.eq_ofNat_of_zero_le b0
  have e : (x : Int) * 2 ^ n = ((2 ^ n * x : Nat) : Int) := by rw [Int.natCast_mul, Int.natCast_pow, Int.mul_comm]; rfl
  have hy : y < 2 ^ n := by exact_mod_cast b1
  rw [h, e, bitOr_nn (Int.natCast_nonneg _) (Int.natCast_nonneg _), Int.toNat_natCast, Int.toNat_natCast, ← Nat.two_pow_add_eq_or_of_lt hy, Int.natCast_add]
theorem or2 {o a b s : Int} (h : o = Builtin.bitOr s b) (hs : s = a * 2) (h0 : 0 ≤ a) (b0 : 0 ≤ b) (b1 : b < 2) : o = 2 * a + b := by
  have g := bor_add (n := 1) (a := a) (b := b) (o := o) (by rw [h, hs]; rfl) h0 b0 (by omega)
  omega

theorem ixN_last {n : Nat} (h : 0 < n) : ixN n (-1) = some (n - 1) := by
  unfold ixN
  rw [if_neg (by decide)]
  by_cases c : -(n : Int) ≤ -1
  · simp [c]; omega
  · omega
theorem set_last {a : Addr} {H : Hp} {xs : List Int} {e : Int} (h : H a = some (.lst ((xs.map V.int).set ((xs.map V.int).length - 1) (.int e)))) : H a = some (.lst ((xs.set (xs.length - 1) e).map V.int)) := by
  rw [List.length_map] at h
  rw [List.map_set]; exact h

theorem op_subB {X : Cx} : OpR X (binaryOp .Sub) (fun x y H Q => ∃ p q, x = .bl p ∧ y = .bl q ∧ ∀ a b : Int, ((a = 1 ∧ p = true) ∨ (a = 0 ∧ p = false)) → ((b = 1 ∧ q = true) ∨ (b = 0 ∧ q = false)) → Q (.int (a - b)) H) := by
  intro pins s σ H x y v u Q I rx ry h
  obtain ⟨p, q, rfl, rfl, hq⟩ := h
  cases rx
  cases ry
  refine PyProof.Rows.sub_bool ⟨.int _, H, I.tok _, ⟨_, rfl⟩, hq _ _ ?_ ?_⟩
  · cases p <;> simp [PyProof.Rows.b2i]
  · cases q <;> simp [PyProof.Rows.b2i]
theorem op_xor1 {X : Cx} : OpR X (binaryOp .BitXor) (fun x y H Q => ∃ i, x = .int i ∧ y = .int 1 ∧ 0 ≤ i ∧ ∀ r, r / 2 = i / 2 → 0 ≤ r → Q (.int r) H) := by
  intro pins s σ H x y v u Q I rx ry h
  obtain ⟨i, rfl, rfl, h0, q⟩ := h
  refine op_xor pins s σ H _ _ v u Q I rx ry ⟨i, 1, rfl, rfl, q _ ?_ (Bits.bitXor_nonneg h0 (by decide))⟩
  rw [Bits.bitXor_pp h0 (by decide)]
  obtain ⟨n, rfl⟩ := Int.eq_ofNat_of_zero_le h0
  rw [Int.toNat_natCast]
  have e : (n ^^^ (1 : Int).toNat) / 2 = n / 2 := by rw [Nat.xor_div_two]; simp
  omega

theorem ixN_int {n : Nat} {i : Int} (h : i < (n : Int)) (h0 : 0 ≤ i) : ixN n i = some i.toNat := by
  unfold ixN
  rw [if_pos h0, if_pos h]
theorem set_mix {a : Addr} {H : Hp} {xs : List Int} {v : V} {i : Int} (hl : 0 ≤ i ∧ i < xs.length) (h : H a = some (.lst ((xs.map V.int).set i.toNat v))) : H a = some (.lst ((xs.take i.toNat).map V.int ++ v :: (xs.drop (i.toNat + 1)).map V.int)) := by
  rw [h, List.set_eq_take_append_cons_drop, if_pos (by rw [List.length_map]; omega), List.map_take, List.map_drop]
theorem mix_get {ps : List Int} {v x : V} {rest : List V} {i : Nat} (hi : i ≤ ps.length) (h : (ps.map V.int ++ v :: rest)[i]? = some x) : (∃ n, x = .int n ∧ ps[i]? = some n) ∨ (x = v ∧ i = ps.length) := by
  by_cases c : i < ps.length
  · rw [List.getElem?_append_left (by rw [List.length_map]; exact c)] at h
    exact .inl (ints_get h)
  · have e : i = ps.length := by omega
    rw [List.getElem?_append_right (by rw [List.length_map]; omega), List.length_map, e, Nat.sub_self] at h
    exact .inr ⟨(Option.some.inj h).symm, e⟩
theorem mix_end {ps : List Int} {v : V} {rest : List V} (h : (ps.map V.int ++ v :: rest).length ≤ ps.length) : False := by
  rw [List.length_append, List.length_map, List.length_cons] at h; omega

end Ow
namespace Ow
open PySem L2

section
variable {X : Cx} {e : Expr} {es : List Expr} {ta : TA} {b : Str} {B : Addr} {mc : Value} {p1 p2 pos : Pos}
open PyProof.Rows PySem.Spec in
/-- B.__init__(self, ..), B an own class whose __init__ is ValueError's -/
theorem pe_winit {pl : Sem Bool} (hg : Gl X b) (hm : X.mg b = some (.ref B)) (rd : ClX.CRead X.K B mc) (cv : PySem.W.findCls X.K (.ref B) mc "__init__" = some (.val (.builtin "ValueError.__init__"))) (ha : PA X (e :: es) ta)
    (hdb : (b == ("__debug__" : Str)) = false := by decide)
    (hc : eval (.Call (.Attribute (.Name b p1) "__init__" p2) (e :: es) [] pos) X.env = (do
      let ov ← eval (.Name b p1) X.env
      standAt p2.atName
      let (f, first) ← holding [ov] (getMethod ov "__init__" pl)
      callWith pos f first (backTo pos (starEach (e :: es) X.env)) (backToKw pos (keywordEach [] X.env))) := by rfl)
    (he : starEach (e :: es) X.env = (false, eval e X.env) :: starEach es X.env := by rfl) (hpl : (backTo pos (starEach es X.env)).any (·.1) = false := by rfl) :
    PE X (.Call (.Attribute (.Name b p1) "__init__" p2) (e :: es) [] pos) (tVeI X.K ta) := by
  refine ⟨fun pins s σ H Q I h => ?_⟩
  refine PySem.W.methodCall_KW (ld_glob I hg hm ?_ hdb) hc
  refine PySem.W.method_cls I.kIn rd.ga (PySem.W.cls_value I.kIn rd.rd cv (by decide +kernel) ?_)
  show wpAny _ _ (callWith pos (Value.builtin "ValueError.__init__") [] (backTo pos (starEach (e :: es) X.env)) []) _ _ _
  refine PyProof.Rows.callWith_method1 (thn (ha.run pos pins _ σ H _ (I.tok _) h) fun us s1 ⟨vs, H1, I1, r1, a, C, ws, ev, hl, T, ea, q⟩ => ?_) he hpl
  subst ev
  cases r1 with
  | @cons _ u0 _ ur ra rw' =>
    obtain rfl : u0 = Value.ref a := ra
    have hlen : ur.length ≤ sizeLine := by
      rw [← Paired.length rw', sizeLine_eq]
      omega
    exact oinit_ok T I1 ea hlen fun s' J => ⟨.non, H1, J, rfl, q⟩
/-- C(), C's own __init__ keeping sp, no field stored -/
def tMkN (C : Addr) (sp : Sp) : L2.St → Hp → XK → Prop := fun σ H1 Q => ∀ a, H1 a = none → sp [.ref a] (upd H1 a (exo a C none))
  (fun v H2 => v = .non ∧ H2 a = some (exo a C none) ∧ Q (.ref C) none (del H2 a)) (fun _ _ _ => False)
open PyProof.Rows PySem.Spec in
theorem mk_endN {pins : List (Addr × Obj)} {σ : L2.St} {H1 H2 : Hp} {hp hp2 h2 : Heap} {g1 g2 : Array GenState} {d1 d2 : Drawn} {t1 t2 : Nat} {os1 os2 : OsState} {a C : Addr} (I1 : L2.Inv X pins σ H1 ⟨hp, g1, d1, t1, os1⟩)
    (ha : hp.objs.size ≤ a) (k : ∀ b o, hp.get? b = some o → hp2.get? b = some o) (un : Un (frs X.stack) [] (upd H1 a (exo a C none)) H2 hp2 h2) (hok : HOk X.prog X.w H2 h2) (ho : os2 = os1) (hb : AllBare g2)
    (ea : H2 a = some (exo a C none)) :
    ∃ (t0 : Addr) (G : Heap), L2.Inv X pins σ (del H2 a) ⟨G, g2, d2, t2, os2⟩ ∧ (∀ b o, G.get? b = some o → h2.get? b = some o) ∧ G.get? a = none ∧
      h2.get? a = some ({ cls := .ref C, dict := none, data := .fields #[.ref t0, .none, .none, .none, .bool false, .none] } : Obj) ∧ (del H2 a) a = none := by
  obtain ⟨t0, hoe⟩ := exo_at hok ea
  have hn : H1 a = none := I1.hok.fresh ha
  obtain ⟨G, g1', g2'⟩ := restrict h2 fun b => decide (b ≠ a)
  have gk : ∀ b, b ≠ a → G.get? b = h2.get? b := fun b hb => g1' b (decide_eq_true hb)
  have ge : G.get? a = none := g2' a (by simp)
  have nha : ∀ {b : Addr} {o : Obj}, hp.get? b = some o → b ≠ a := fun {b o} z => Nat.ne_of_lt (Nat.lt_of_lt_of_le (Heap.lt_size z) ha)
  have up : ∀ {b : Addr}, b ≠ a → H1 b = none → upd H1 a (exo a C none) b = none := fun {b} hb n => by rw [upd_ne hb]; exact n
  have U : Un (frs X.stack) [] H1 (del H2 a) hp G := {
    keep := fun b o z n hf hx => by
      rw [gk b (nha z)]
      exact un.keep b o (k b o z) (up (nha z) n) hf hx
    slot := fun b o z n hf hx => by
      rw [gk b (nha z)]
      exact un.slot b o (k b o z) (up (nha z) n) hf hx
    free := fun b o z n hx => by
      rw [del_ne (nha z)]
      exact un.free b o (k b o z) (up (nha z) n) hx
    there := fun b o z hx => by
      rw [gk b (nha z)]
      exact un.there b o (k b o z) hx
    tups := fun b xs z => by
      rw [del_ne (ne_of_none z hn)]
      exact un.tups b xs (by rw [upd_ne (ne_of_none z hn)]; exact z)
    frzs := fun b o v z => by
      rw [del_ne (ne_of_none z hn)]
      exact un.frzs b o v (by rw [upd_ne (ne_of_none z hn)]; exact z)
    tbls := fun b ps z => by
      rw [del_ne (ne_of_none z hn)]
      exact un.tbls b ps (by rw [upd_ne (ne_of_none z hn)]; exact z) }
  have hok3 : HOk X.prog X.w (del H2 a) G := fun b o z => by
    have hba : b ≠ a := fun e => by
      rw [e, del_same] at z
      cases z
    rw [del_ne hba] at z
    have noa : ∀ {c : Addr}, H2 c = some (.own b) → c ≠ a := fun {c} hc => at_ne ea hc exo_own
    exact (hok b o z).stay (fun c v hc y => by
        have hca : c ≠ a := by
          rcases hc with hc | hc
          · rw [hc]
            exact hba
          · exact noa hc
        rw [gk c hca]
        exact y)
      (fun c hc => by rw [del_ne (noa hc)]; exact hc) (fun c xs hc => by rw [del_ne (at_ne ea hc exo_tup)]; exact hc)
  have J : L2.Inv X pins σ (del H2 a) ⟨G, g2, d2, t2, os2⟩ := I1.call' (ch := []) ho U hok3 hb (fun b z => absurd z (by simp))
  refine ⟨t0, G, J, fun b o z => ?_, ge, hoe, del_same⟩
  by_cases hba : b = a
  · rw [hba, ge] at z
    cases z
  · exact (gk b hba).symm.trans z
open PyProof.Rows PySem.Spec in
theorem pmk_oexN {CX : CXT} {x : Str} {C fI : Addr} {k : Nat} {fd : FuncData} {ps : List Str} {sp : Sp} {p : Pos} (T : OexC X.K C) (iC : PySem.W.findIn X.K (.ref C) "__init__" = some (some (.ref fI))) (tI : PySem.W.typeIn X.K (.ref fI) = some (.type "function"))
    (F1 : FnOk X.prog X.w X.K X.mg X.base CX k fI fd ps sp) (hr : Room (k + 1) X.A) (hb : Binds X.K fd ps []) (hx : Passes CX X (fun _ _ _ => False)) (hg : Gl X x) (hm : X.mg x = some (.ref C))
    (hdb : (x == ("__debug__" : Str)) = false := by decide) :
    PMk X (.Call (.Name x p) [] [] pos) (tMkN C sp) := by
  intro pins s σ H Q I q1
  obtain ⟨nm, q, N, bs, bm, sn, sub, ab, col, dd, k0, k1, k2, k3, k5, hC, hbm⟩ := T.cls
  refine wpAny_Call_Name_kw (ld_glob I hg hm ?_ hdb)
  refine PySem.W.callWith_K0 I.kIn T.kC ?_
  show wpAny _ _ (call (.ref C) []) _ _ _
  obtain ⟨hp, g, dr, tk, os⟩ := s
  have hsz : hp.objs.size ≤ hp.objs.size + 1 := Nat.le_succ _
  have hn : H (hp.objs.size + 1) = none := I.hok.fresh hsz
  have hq := q1 (hp.objs.size + 1) hn
  have kk : ∀ b o, hp.get? b = some o → ((hp.push (PySem.W.kdv_tup [])).push (PySem.HandSPX.excO C hp.objs.size)).get? b = some o := fun b o e => Heap.get?_push_of_some _ (Heap.get?_push_of_some _ e)
  have hget : ((hp.push (PySem.W.kdv_tup [])).push (PySem.HandSPX.excO C hp.objs.size)).get? (hp.objs.size + 1) = some (PySem.HandSPX.excO C hp.objs.size) := by heap_get
  have I2 : L2.Inv X pins σ (upd H (hp.objs.size + 1) (exo (hp.objs.size + 1) C none)) ⟨(hp.push (PySem.W.kdv_tup [])).push (PySem.HandSPX.excO C hp.objs.size), g, dr, tk, os⟩ :=
    I.laid (t' := tk) (a := hp.objs.size + 1) (o := exo (hp.objs.size + 1) C none) (h' := (hp.push (PySem.W.kdv_tup [])).push (PySem.HandSPX.excO C hp.objs.size)) kk hsz (exo_ok hget)
  have r2 : Vals [V.ref (hp.objs.size + 1)] [Value.ref (hp.objs.size + 1)] := .cons rfl .nil
  have hl : ([Value.ref (hp.objs.size + 1)] : List Value).length = ps.length := by
    have e := r2.length
    rw [F1.len _ _ _ _ hq] at e
    exact e.symm
  refine wpAny_call (PySem.HandSPX.call_own F.excBase_ValueError (fun Y => PySem.HandSPX.refsVE_contains Y bm hbm) (I.kIn _ _ hC) (PySem.W.looks_findIn I.kIn iC) (fun self => PySem.W.bind_fn I.kIn self tI) (by simp)
    (codeAny_mono (F1.run _ X.stack _ _ ⟨[Value.ref (hp.objs.size + 1)], []⟩ ([Value.ref (hp.objs.size + 1)] ++ []) _ _ (fun _ _ _ => False) (hr.make C [] []) (I2.env0.make C [] []) (hb _ [Value.ref (hp.objs.size + 1)] I2.kIn hl) (r2.append .nil) hq) fun r s' hq' => ?_))
  cases r with
  | error er => exact hx pins σ _ _ er s' I2 hq'
  | ok fl =>
    cases fl with
    | ret u =>
      obtain ⟨v, H2, os2, bare2, un2, hok2, rv, ev, ea, q2⟩ := hq'
      subst ev
      obtain ⟨h2, g2, d2, t2, os'⟩ := s'
      refine ⟨rv, ?_⟩
      obtain ⟨t0, G, J, kG, ge, hoe, na⟩ := mk_endN (d2 := d2) (t2 := t2) I hsz kk un2 hok2 os2 bare2 ea
      exact ⟨hp.objs.size + 1, _, _, ⟨G, g2, d2, t2, os'⟩, _, .ref C, none, rfl, J, kG, ge, hoe, ⟨rfl, rfl⟩, rfl, rfl, na, rfl, bare2, raises_own T.exC T.tyC, q2⟩
    | next => exact False.elim hq'
    | brk => exact False.elim hq'
    | cont => exact False.elim hq'
end

theorem del_upd {H : Hp} {a : Addr} {o : HO} (h : H a = none) : del (upd H a o) a = H := by
  funext b
  by_cases hb : b = a
  · rw [hb, del_same, h]
  · rw [del_ne hb, upd_ne hb]
/-- isinstance of what the suite holds -/
theorem call_isE2 {X : Cx} {a : Addr} {oe : Obj} {cls : Value} {d : Option Addr} {pn : List (Addr × Obj)} (hz : Zc cls d oe) (hf : ∃ vs, oe.data = .fields vs) :
    CallR (X.suite a ((a, oe) :: pn)) (.builtin "isinstance") (fun xs H Q => ∃ (D C : Addr) (b : Bool), cls = .ref D ∧ d = none ∧ ExcC X.K D ∧ xs = [.ref a, .ref C] ∧ PySem.W.kitOne X.K (.ref D) (.ref C) = some b ∧ Q (.bl b) H) := by
  intro pins s σ H xs us Q I r h
  obtain ⟨D, C, b, rfl, rfl, E, rfl, hk, q⟩ := h
  exact call_isE E hz hf pins s σ H _ us Q I r ⟨.ref C, .ref C, b, rfl, fun u h => h, hk, q⟩
/-- isinstance of what the suite holds, a built-in class -/
theorem call_isET {X : Cx} {a : Addr} {oe : Obj} {cls : Value} {d : Option Addr} {pn : List (Addr × Obj)} (hz : Zc cls d oe) (hf : ∃ vs, oe.data = .fields vs) :
    CallR (X.suite a ((a, oe) :: pn)) (.builtin "isinstance") (fun xs H Q => ∃ (D : Addr) (n : String) (b : Bool), cls = .ref D ∧ d = none ∧ ExcC X.K D ∧ xs = [.ref a, .ty n] ∧ PySem.W.kitOne X.K (.ref D) (.type n) = some b ∧ Q (.bl b) H) := by
  intro pins s σ H xs us Q I r h
  obtain ⟨D, n, b, rfl, rfl, E, rfl, hk, q⟩ := h
  exact call_isE E hz hf pins s σ H _ us Q I r ⟨.ty n, .type n, b, rfl, fun u h => h, hk, q⟩
theorem kit_tyE {K : PySem.W.Frag} {D : Addr} {n : String} {b : Bool} (h1 : PySem.W.kitMeta n = true) (h4 : PySem.W.subIn K (.ref D) (.type n) = some b) : PySem.W.kitOne K (.ref D) (.type n) = some b := by
  unfold PySem.W.kitOne PySem.W.kitCls
  rw [if_neg (by intro h; cases h)]
  dsimp only
  rw [if_pos h1]
  exact h4
structure Xc (K : PySem.W.Frag) (mg : Str → Option Value) (x : Str) : Type where
  C : Addr
  m : mg x = some (.ref C)
  oex : OexC K C
  ex : ExcC K C
structure Bc (K : PySem.W.Frag) (mg : Str → Option Value) (x : Str) : Type where
  C : Addr
  m : mg x = some (.ref C)
  mc : Value
  rd : ClX.CRead K C mc
  cv : PySem.W.findCls K (.ref C) mc "__init__" = some (.val (.builtin "ValueError.__init__"))
structure Xi (K : PySem.W.Frag) (C : Addr) (qual : Str) (st : Stmt) (ps : List Str) : Type where
  f : Addr
  fd : FuncData
  F : Fun K "__init__" qual st f fd
  b : Binds K fd ps []
  iC : PySem.W.findIn K (.ref C) "__init__" = some (some (.ref f))
  tI : PySem.W.typeIn K (.ref f) = some (.type "function")

theorem kit_self {K : PySem.W.Frag} {t : Value} : PySem.W.kitOne K t t = some true := by
  unfold PySem.W.kitOne; rw [if_pos (beq_self_eq_true _)]
theorem kit_sub {K : PySem.W.Frag} {t : Value} {C : Addr} {b : Bool} (ne : (t == Value.ref C) = false) (h2 : PySem.W.isClsIn K C = true) (h3 : PySem.W.typeIn K (.ref C) = some (.type "type")) (h4 : PySem.W.subIn K t (.ref C) = some b) : PySem.W.kitOne K t (.ref C) = some b := by
  unfold PySem.W.kitOne PySem.W.kitCls
  have h2' : (PySem.W.clsIn K C).isSome = true := h2
  rw [if_neg (by rw [ne]; decide)]
  dsimp only
  rw [if_pos (by rw [h2', h3]; rfl)]
  exact h4

/-- C() of a class without any __init__ -/
structure Mk0 (K : PySem.W.Frag) (C : Addr) : Prop where
  makes : PySem.W.makesIn K C = true
  init : PySem.W.findIn K (.ref C) "__init__" = some (some (.builtin "object.__init__"))
  top : PySem.W.mroIn K C (.type "object") = some true
  kp : PySem.W.keepIn K (.ref C) = true
section
variable {X : Cx} {C : Addr} {x : Str} {p pos : Pos}
open PySem.W PySem.Calls PyProof.Rows NwA in
theorem run_make00 {pins : List (Addr × Obj)} {σ : L2.St} {H : Hp} {s : Shared} {Q : VK} (M : Mk0 X.K C) (I : L2.Inv X pins σ H s)
    (h : ∀ x dx, H x = Option.none → H dx = Option.none → dx ≠ x → Q (.ref x) (upd (upd H dx (.own x)) x (.ins C dx []))) : wpAny (model X.prog X.w) X.A (PySem.call (.ref C) []) (EP X pins σ Q) X.xe s := by
  have hq := h (s.heap.objs.size + 1) s.heap.objs.size (I.hok.fresh (Nat.le_succ _)) (I.hok.fresh (Nat.le_refl _)) (Nat.ne_of_lt (Nat.lt_succ_self _))
  have I2 := Inv.made (C := C) I
  refine wpAny_call (make_map0 I.kIn M.makes M.init (fun self => Looks.of_pure (oi_bind _)) ?_)
  have ho : ((s.heap.push PySem.W.emptyDict).push (PySem.W.instObj C s.heap.objs.size)).get? (s.heap.objs.size + 1) = some (PySem.W.instObj C s.heap.objs.size) := by
    have := Heap.get?_push_size (s.heap.push PySem.W.emptyDict) (o := PySem.W.instObj C s.heap.objs.size) rfl
    rwa [Heap.size_push] at this
  have t1 : Looks (model X.prog X.w) ((s.heap.push PySem.W.emptyDict).push (PySem.W.instObj C s.heap.objs.size)) (typeOf (.ref (s.heap.objs.size + 1))) (.ref C) := type_at ho rfl
  have t2 : Looks (model X.prog X.w) ((s.heap.push PySem.W.emptyDict).push (PySem.W.instObj C s.heap.objs.size)) (isInstance (.ref (s.heap.objs.size + 1)) (.type "object")) true := t1.andThen (looks_mroIn I2.kIn M.top)
  refine codeAny_call_builtin oi_plain entry_oi (@check_slot _ _ _ _ "object.__init__" "object" "__init__" (.ref (s.heap.objs.size + 1)) [] [] _ oi_kind oi_split t2 (oi_args_any _ [] []) ?_)
  rw [oi_run]
  exact wpAny_pure ⟨rfl, ⟨V.ref (s.heap.objs.size + 1), _, I2, rfl, hq⟩⟩
def tMake00 (C : Addr) : TE := fun _ H Q => ∀ x dx, H x = none → H dx = none → dx ≠ x → Q (.ref x) (upd (upd H dx (.own x)) x (.ins C dx []))
theorem pe_make00 (M : Mk0 X.K C) (hg : Gl X x) (hm : X.mg x = some (.ref C)) (hdb : (x == ("__debug__" : Str)) = false := by decide) : PE X (.Call (.Name x p) [] [] pos) (tMake00 C) := by
  refine ⟨fun pins s σ H Q I h => ?_⟩
  refine wpAny_Call_Name_kw (ld_glob I hg hm ?_ hdb)
  exact PySem.W.callWith_K0 I.kIn M.kp (run_make00 M I h)
/-- one of two readings -/
theorem pe_alt {e : Expr} {t u : TE} (h1 : PE X e t) (h2 : PE X e u) : PE X e (fun σ H Q => t σ H Q ∨ u σ H Q) :=
  ⟨fun pins s σ H Q I h => h.elim (h1.run pins s σ H Q I) (h2.run pins s σ H Q I)⟩
end

theorem free2 {H : Hp} {dx x : Addr} {o : HO} (hne : dx ≠ x) (hx : H x = none) : upd H dx o x = none := by rw [upd_ne (fun z => hne z.symm)]; exact hx
/-- a method of one of several classes -/
def MAlt (X : Cx) (CX : CXT) (m : Str) (C : Addr) (sp : Sp) : Prop :=
  ∃ f fd ps k, Cls X.K C ∧ Meth X.K C m f ∧ FnOk X.prog X.w X.K X.mg X.base CX k f fd ps sp ∧ Room k X.A ∧ Binds X.K fd ps []
def tMethA (R : Addr → Sp → Prop) (m : Str) (E : XK) (ta : TE) (t : TA) : TE := fun σ H Q => ta σ H fun x H1 => ∃ a dx fs C sp, x = .ref a ∧ R C sp ∧ H1 a = some (.ins C dx fs) ∧ fs.lookup m = none ∧ t σ H1 fun vs H2 => sp (.ref a :: vs) H2 Q E
section
variable {X : Cx} {CX : CXT} {E : XK} {R : Addr → Sp → Prop} {o e : Expr} {es : List Expr} {m : Str} {apos pos : Pos} {ta : TE} {t : TA}
theorem pe_methA {pl : Sem Bool} (he : PE X o ta) (hall : ∀ C sp, R C sp → MAlt X CX m C sp) (hx : Passes CX X E) (ha : PA X (e :: es) t)
    (hst : starEach (e :: es) X.env = (false, eval e X.env) :: starEach es X.env := by rfl) (hpl : (backTo pos (starEach es X.env)).any (·.1) = false := by rfl)
    (ht : eval (.Call (.Attribute o m apos) (e :: es) [] pos) X.env = (do
      let ov ← eval o X.env
      standAt apos.atName
      let (f, first) ← holding [ov] (getMethod ov m pl)
      callWith pos f first (backTo pos (starEach (e :: es) X.env)) (backToKw pos (keywordEach [] X.env))) := by rfl) :
    PE X (.Call (.Attribute o m apos) (e :: es) [] pos) (tMethA R m E ta t) := by
  refine ⟨fun pins s σ H Q I h => ?_⟩
  refine PySem.W.methodCall_KW (pl := pl) (thn (he.run pins s σ H _ I h) fun u s1 ⟨x, H1, I1, rx, a, dx, fs, C, sp, ex, hr, ea, l, q⟩ => ?_) ht
  obtain ⟨f, fd, ps, k, c, hm, F, hr, hb⟩ := hall C sp hr
  subst ex
  obtain rfl : u = Value.ref a := rx
  refine getmeth_ok I1 ea c hm l ?_
  refine PySem.W.callWith_K (first := [.ref a]) (h₀ := X.base) I.ok.mod.kin hm.kp (thn (ha.run pos pins s1 σ H1 _ I1 q) fun us s2 ⟨vs, H2, I2, r, q2⟩ => ⟨I2.kIn, ?_⟩) hst hpl
  exact run_fn (us := .ref a :: us) (vs := .ref a :: vs) F hr hb .nil hx I2 (.cons rfl r) (by rw [List.append_nil]; exact q2)
theorem pe_methA0 {pl : Sem Bool} (he : PE X o ta) (hall : ∀ C sp, R C sp → MAlt X CX m C sp) (hx : Passes CX X E)
    (ht : eval (.Call (.Attribute o m apos) [] [] pos) X.env = (do
      let ov ← eval o X.env
      standAt apos.atName
      let (f, first) ← holding [ov] (getMethod ov m pl)
      callWith pos f first (backTo pos (starEach [] X.env)) (backToKw pos (keywordEach [] X.env))) := by rfl) :
    PE X (.Call (.Attribute o m apos) [] [] pos) (tMethA R m E ta tNil) := by
  refine ⟨fun pins s σ H Q I h => ?_⟩
  refine PySem.W.methodCall_KW (pl := pl) (thn (he.run pins s σ H _ I h) fun u s1 ⟨x, H1, I1, rx, a, dx, fs, C, sp, ex, hr, ea, l, q⟩ => ?_) ht
  obtain ⟨f, fd, ps, k, c, hm, F, hr, hb⟩ := hall C sp hr
  subst ex
  obtain rfl : u = Value.ref a := rx
  refine getmeth_ok I1 ea c hm l ?_
  exact PySem.W.callWith_K0 (first := [.ref a]) I1.kIn hm.kp (run_fn (us := [.ref a]) (vs := [.ref a]) F hr hb .nil hx I1 (.cons rfl .nil) q)
end
theorem mal_one {X : Cx} {CX : CXT} {m : Str} {C0 : Addr} {sp0 : Sp} (h : MAlt X CX m C0 sp0) : ∀ C sp, (C = C0 ∧ sp = sp0) → MAlt X CX m C sp := by
  rintro _ _ ⟨rfl, rfl⟩; exact h
theorem mal_or {X : Cx} {CX : CXT} {m : Str} {R1 R2 : Addr → Sp → Prop} (h1 : ∀ C sp, R1 C sp → MAlt X CX m C sp) (h2 : ∀ C sp, R2 C sp → MAlt X CX m C sp) : ∀ C sp, (R1 C sp ∨ R2 C sp) → MAlt X CX m C sp :=
  fun C sp h => h.elim (h1 C sp) (h2 C sp)
/-- a class of the text whose instances are made -/
structure Kc (K : PySem.W.Frag) (mg : Str → Option Value) (x : Str) : Type where
  C : Addr
  m : mg x = some (.ref C)
  cl : Cls K C
structure Dm (K : PySem.W.Frag) (x qual : Str) (st : Stmt) (ps : List Str) : Type where
  f : Addr
  fd : FuncData
  F : Fun K x qual st f fd
  b : Binds K fd ps []
/-! ### C.f(self, ..), a def of an own class called by the class's name -/
section
variable {X : Cx} {CX : CXT} {k : Nat} {f B : Addr} {fd : FuncData} {ps : List Str} {sp : Sp} {E : XK} {b m : Str} {mc : Value} {p1 p2 pos : Pos} {e : Expr} {es : List Expr} {t : TA}
open PyProof.Rows PySem.Spec in
theorem pe_cdef {pl : Sem Bool} (hg : Gl X b) (hm : X.mg b = some (.ref B)) (rd : ClX.CRead X.K B mc) (cv : PySem.W.findCls X.K (.ref B) mc m = some (.val (.ref f))) (hk : PySem.W.keepIn X.K (.ref f) = true)
    (F : FnOk X.prog X.w X.K X.mg X.base CX k f fd ps sp) (hr : Room k X.A) (hb : Binds X.K fd ps []) (hx : Passes CX X E) (ha : PA X (e :: es) t)
    (hdb : (b == ("__debug__" : Str)) = false := by decide)
    (hc : eval (.Call (.Attribute (.Name b p1) m p2) (e :: es) [] pos) X.env = (do
      let ov ← eval (.Name b p1) X.env
      standAt p2.atName
      let (f, first) ← holding [ov] (getMethod ov m pl)
      callWith pos f first (backTo pos (starEach (e :: es) X.env)) (backToKw pos (keywordEach [] X.env))) := by rfl)
    (he : starEach (e :: es) X.env = (false, eval e X.env) :: starEach es X.env := by rfl) (hpl : (backTo pos (starEach es X.env)).any (·.1) = false := by rfl) :
    PE X (.Call (.Attribute (.Name b p1) m p2) (e :: es) [] pos) (tCall sp [] E t) := by
  refine ⟨fun pins s σ H Q I h => ?_⟩
  refine PySem.W.methodCall_KW (ld_glob I hg hm ?_ hdb) hc
  refine PySem.W.method_cls I.kIn rd.ga (PySem.W.cls_value I.kIn rd.rd cv rfl ?_)
  refine PySem.W.callWith_K (first := []) (h₀ := X.base) I.ok.mod.kin hk (thn (ha.run pos pins _ σ H _ (I.tok _) h) fun us s1 ⟨vs, H1, I1, r, q⟩ => ⟨I1.kIn, ?_⟩) he hpl
  exact run_fn F hr hb .nil hx I1 r q
end
/-- what C.f needs of C -/
structure Cc (K : PySem.W.Frag) (C : Addr) (m : Str) (f : Addr) : Type where
  mc : Value
  rd : ClX.CRead K C mc
  cv : PySem.W.findCls K (.ref C) mc m = some (.val (.ref f))

/-- isinstance of an instance of an own class -/
structure Ic (K : PySem.W.Frag) (C : Addr) : Prop where
  ha : PySem.W.findIn K (.ref C) "__class__" = some (some (.builtin "object.__class__"))
  hn : PySem.W.specialIn K (.builtin "object.__class__") "__get__" = some (some (.builtin "getset_descriptor.__get__"))
  ht : PySem.W.takesIn K (.builtin "object.__class__") = some true
  hm : PySem.W.mroIn K C (.type "object") = some true
theorem tyIns {K : PySem.W.Frag} {H : Hp} {a C dx : Addr} {fs : List (Str × V)} (cl : Cls K C) (i : Ic K C) (e : H a = some (.ins C dx fs)) : TyX K H (.ref a) (.ref C) := .base (.ins e cl i.ha i.hn i.ht i.hm)

end Ow
namespace Ow
open PySem L2
local macro_rules | `(tactic| walk_at "o2") => `(tactic| first | with_reducible assumption | exact Ow.divw64 (by omega) (by omega) | exact Ow.mul0 ⟨by omega, by omega⟩ | exact Ow.mul1 ⟨by omega, by omega⟩ | exact Ow.shl0 (by omega) (by omega) (by omega) | exact ⟨by omega, by omega⟩ | exact ⟨by omega, by omega, by omega⟩ | omega | (simp only [List.length_append, List.length_cons, List.length_nil]; omega) | (subst_vars; omega) | assumption | exact Ow.divW (by omega) (by omega) | exact Ow.mulW ⟨by omega, by omega⟩ ⟨by omega, by omega⟩ | exact Ow.shlW (by omega) (by omega) ⟨by omega, by omega⟩)
local macro_rules | `(tactic| walk_at "ob") => `(tactic| first | assumption | omega | exact ⟨by omega, by omega⟩ | exact ⟨by omega, by omega, by omega⟩ | exact Ow.divw64 (by omega) (by omega) | exact Or.inl ⟨by omega, by omega⟩ | exact Or.inr ⟨by omega, by omega⟩)
inductive F_Kind where
  | Plain
  | Signed
  | Pointed
inductive Tf_Kind where
  | plain (w : Int)
  | signed (w : Int)
  | point (w : Int) (p : Int)
def tl_Kind : Tf_Kind → List V
  | .plain w => [V.str ("plain"), V.int (w), V.int (0)]
  | .signed w => [V.str ("signed"), V.int (w), V.int (0)]
  | .point w p => [V.str ("point"), V.int (w), V.int (p)]
def ti1_Kind : Tf_Kind → Int
  | .plain w => w
  | .signed w => w
  | .point w p => w
def ti2_Kind : Tf_Kind → Int
  | .plain w => 0
  | .signed w => 0
  | .point w p => p
def fl_Kind : Tf_Kind → List (Str × V)
  | .plain w => [(("width" : Str), V.int (w)), (("point" : Str), V.int (0))]
  | .signed w => [(("width" : Str), V.int (w)), (("point" : Str), V.int (0))]
  | .point w p => [(("width" : Str), V.int (w)), (("point" : Str), V.int (p))]
def kn_Kind : Tf_Kind → F_Kind
  | .plain w => .Plain
  | .signed w => .Signed
  | .point w p => .Pointed

/-- the count of a word -/
def cnt (w a : Int) : Int := if a < 2 ^ (w - 1).toNat then a else a - 2 ^ w.toNat
theorem dm (a : Int) {n : Int} (h : 0 < n) : a = a / n * n + a % n ∧ 0 ≤ a % n ∧ a % n < n :=
  ⟨(Int.ediv_mul_add_emod a n).symm, Int.emod_nonneg _ (by omega), Int.emod_lt_of_pos _ h⟩
theorem quo01 {a n : Int} (h : 0 < n) (h0 : 0 ≤ a) (h1 : a < 2 * n) : a / n = 0 ∨ a / n = 1 := by
  have h2 : a / n < 2 := Int.ediv_lt_of_lt_mul h h1
  have h3 : 0 ≤ a / n := Int.ediv_nonneg h0 (by omega)
  omega
theorem gapx {a b n : Int} (h : 0 < n) (a0 : 0 ≤ a) (a1 : a < n) (b0 : 0 ≤ b) (b1 : b < n) : (a - b) % n = if a < b then a - b + n else a - b := by
  split
  · rw [← Int.add_emod_right, Int.emod_eq_of_lt (by omega) (by omega)]
  · rw [Int.emod_eq_of_lt (by omega) (by omega)]
theorem high_lt {a b n : Int} (h : 0 < n) (a0 : 0 ≤ a) (a1 : a < n) (b0 : 0 ≤ b) (b1 : b < n) : 0 ≤ a * b / n ∧ a * b / n < n := by
  have h1 : 0 ≤ a * b := Int.mul_nonneg a0 b0
  refine ⟨Int.ediv_nonneg h1 (by omega), Int.ediv_lt_of_lt_mul h ?_⟩
  calc a * b ≤ a * n := Int.mul_le_mul_of_nonneg_left (by omega) a0
    _ < n * n := Int.mul_lt_mul_of_pos_right a1 h
theorem rgt {a : Int} (a0 : 0 ≤ a) (k : Nat) : 0 ≤ a / 2 ^ k ∧ a / 2 ^ k ≤ a := by
  refine ⟨Int.ediv_nonneg a0 (by have := p2 k; omega), Int.ediv_le_self _ a0⟩
theorem sub_mod (a n : Int) : (a - a % n) % n = 0 := by
  have h := Int.ediv_mul_add_emod a n
  have e : a - a % n = n * (a / n) := by rw [Int.mul_comm]; omega
  rw [e, Int.mul_emod_right]
theorem top_bit {w a : Int} (hw : 1 ≤ w) (h0 : 0 ≤ a) (h1 : a < 2 ^ w.toNat) : (a / 2 ^ (w - 1).toNat = 1 ∧ 2 ^ (w - 1).toNat ≤ a) ∨ (a / 2 ^ (w - 1).toNat = 0 ∧ a < 2 ^ (w - 1).toNat) := by
  have e := pow2_pred hw
  have p := p2 (w - 1).toNat
  by_cases h : a < 2 ^ (w - 1).toNat
  · exact .inr ⟨Int.ediv_eq_zero_of_lt h0 h, h⟩
  · refine .inl ⟨?_, by omega⟩
    have h2 := quo01 p h0 (by omega)
    have h3 : 1 ≤ a / 2 ^ (w - 1).toNat := (Int.le_ediv_iff_mul_le p).mpr (by omega)
    omega
/-- the count of the rest of a number that is a count -/
theorem cnt_rest {w x : Int} (hw : 1 ≤ w) (h0 : -(2 ^ (w - 1).toNat) ≤ x) (h1 : x < 2 ^ (w - 1).toNat) : cnt w (x % 2 ^ w.toNat) = x := by
  have e := pow2_pred hw
  have p := p2 (w - 1).toNat
  unfold cnt
  by_cases h : 0 ≤ x
  · rw [Int.emod_eq_of_lt h (by omega), if_pos h1]
  · rw [← Int.add_emod_right, Int.emod_eq_of_lt (by omega) (by omega), if_neg (by omega)]
    omega
theorem cnt_lt {w a : Int} (hw : 1 ≤ w) (h0 : 0 ≤ a) (h1 : a < 2 ^ w.toNat) : -(2 ^ (w - 1).toNat) ≤ cnt w a ∧ cnt w a < 2 ^ (w - 1).toNat := by
  have e := pow2_pred hw
  unfold cnt
  split <;> omega
theorem down {x n : Int} (h : 0 < n) : 0 ≤ x - x / n * n ∧ x - x / n * n < n := by
  have := dm x h
  omega
theorem slid {w x k : Int} (hw : 1 ≤ w) (h0 : -(2 ^ (w - 1).toNat) ≤ x) (h1 : x < 2 ^ (w - 1).toNat) (n : Nat) :
    0 ≤ x - cnt w (x / 2 ^ n % 2 ^ w.toNat) * 2 ^ n ∧ x - cnt w (x / 2 ^ n % 2 ^ w.toNat) * 2 ^ n < 2 ^ n := by
  have p := p2 n
  have p1 := p2 (w - 1).toNat
  have a1 : -(2 ^ (w - 1).toNat) ≤ x / 2 ^ n := by
    refine (Int.le_ediv_iff_mul_le p).mpr ?_
    have : (2 : Int) ^ (w - 1).toNat * 1 ≤ 2 ^ (w - 1).toNat * 2 ^ n := Int.mul_le_mul_of_nonneg_left (by omega) (by omega)
    have e : -(2 : Int) ^ (w - 1).toNat * 2 ^ n = -(2 ^ (w - 1).toNat * 2 ^ n) := Int.neg_mul _ _
    omega
  have a2 : x / 2 ^ n < 2 ^ (w - 1).toNat := by
    refine Int.ediv_lt_of_lt_mul p ?_
    have : (2 : Int) ^ (w - 1).toNat * 1 ≤ 2 ^ (w - 1).toNat * 2 ^ n := Int.mul_le_mul_of_nonneg_left (by omega) (by omega)
    omega
  rw [cnt_rest hw a1 a2]
  exact down p

def kw : Tf_Kind → Int | .plain w => w | .signed w => w | .point w _ => w
def kp : Tf_Kind → Int | .plain _ => 0 | .signed _ => 0 | .point _ p => p
def kl : Tf_Kind → Int | .plain _ => 0 | .signed w => 0 - 2 ^ (w - 1).toNat | .point w _ => 0 - 2 ^ (w - 1).toNat
def kg : Tf_Kind → Int | .plain w => 2 ^ w.toNat - 1 | .signed w => 2 ^ (w - 1).toNat - 1 | .point w _ => 2 ^ (w - 1).toNat - 1
def KOk : Tf_Kind → Prop | .plain w => 4 ≤ w ∧ w ≤ 32 | .signed w => 4 ≤ w ∧ w ≤ 32 | .point w p => 4 ≤ w ∧ w ≤ 32 ∧ 1 ≤ p ∧ p < w
def knr (kd : Tf_Kind) (n : Int) : Int := if n < kl kd then kl kd else if kg kd < n then kg kd else n
theorem krng {kd : Tf_Kind} (h : KOk kd) : 4 ≤ kw kd ∧ kw kd ≤ 32 ∧ (2 : Int) ^ (kw kd - 1).toNat ≤ 2 ^ 31 ∧ (8 : Int) ≤ 2 ^ (kw kd - 1).toNat ∧ (2 : Int) ^ (kw kd).toNat = 2 * 2 ^ (kw kd - 1).toNat := by
  have h1 : 4 ≤ kw kd ∧ kw kd ≤ 32 := by cases kd <;> simp only [KOk, kw] at * <;> omega
  exact ⟨h1.1, h1.2, pow2_mono (a := (kw kd - 1).toNat) (b := 31) (by omega), pow2_mono (a := 3) (b := (kw kd - 1).toNat) (by omega), pow2_pred (by omega)⟩
theorem bq {b c : Bool} {P : Prop} (h : b = true ↔ P) (g : c = true ↔ P) : b = c := by
  have := h.trans g.symm
  cases b <;> cases c <;> simp_all
def kle1 : Tf_Kind → Int | .plain _ => 0 | .signed w => 0 - 2 ^ (w - 1).toNat | .point w _ => 0 - 2 ^ (w - 1).toNat
def kge1 : Tf_Kind → Int | .plain w => 2 ^ w.toNat - 1 | .signed w => 2 ^ (w - 1).toNat - 1 | .point w _ => 2 ^ (w - 1).toNat - 1
theorem kle {kd : Tf_Kind} (_ : KOk kd) : kl kd = kle1 kd := by cases kd <;> rfl
theorem kge {kd : Tf_Kind} (_ : KOk kd) : kg kd = kge1 kd := by cases kd <;> rfl
theorem nbi {b : Bool} {P : Prop} (h : b = true ↔ P) : (!b) = true ↔ ¬ P := by rw [← h]; cases b <;> simp
theorem nbe {P Q : Prop} [Decidable P] (h : P ↔ Q) : (!decide P) = true ↔ ¬ Q := by rw [← h]; simp
theorem knr_of {kd : Tf_Kind} {n a m l g : Int} (h1 : a ≤ n ∧ a ≤ g ∧ (a = n ∨ a = g)) (h2 : l ≤ m ∧ a ≤ m ∧ (m = l ∨ m = a)) (hl : kl kd = l) (hg : kg kd = g) : m = knr kd n ∨ g < l := by
  unfold knr; rw [hl, hg]
  by_cases z : g < l
  · exact .inr z
  · left; split <;> (try split) <;> omega
theorem rest_of {n q s r m : Int} {k : Nat} (hq : q = n / s) (hm : m = q * s) (hr : r = n - m) (hs : s = 2 ^ k) : n % 2 ^ k = r := by
  have e := Int.ediv_mul_add_emod n s
  rw [← hs, hr, hm, hq]; omega
theorem near_of {kd : Tf_Kind} {n N S l g : Int} {k : Nat} (hs : S = 2 ^ k) (hl : kl kd = l) (hg : kg kd = g) (h0 : 0 ≤ N) (h1 : N < S) (a : n < l → N = l ∨ N = l + S) (b : l ≤ n → g < n → N = g ∨ N = g + S) (c : l ≤ n → n ≤ g → N = n ∨ N = n + S) : knr kd n % 2 ^ k = N := by
  have e : N = knr kd n ∨ N = knr kd n + S := by
    unfold knr; rw [hl, hg]
    by_cases z : n < l
    · rw [if_pos z]; exact a z
    · rw [if_neg z]
      by_cases y : g < n
      · rw [if_pos y]; exact b (by omega) y
      · rw [if_neg y]; exact c (by omega) (by omega)
  rw [← hs]
  rcases e with e | e
  · rw [← e]; exact Int.emod_eq_of_lt h0 h1
  · rw [show knr kd n = N + S * (-1) by omega, Int.add_mul_emod_self_left]; exact Int.emod_eq_of_lt h0 h1

theorem gcd_abs {a b x y : Int} (hx : x = if a < 0 then -a else a) (hy : y = if b < 0 then -b else b) : Int.gcd x y = Int.gcd a b := by
  have e1 : x.natAbs = a.natAbs := by split at hx <;> omega
  have e2 : y.natAbs = b.natAbs := by split at hy <;> omega
  unfold Int.gcd; rw [e1, e2]
theorem gcd_step {a b r g : Int} (h : (Int.gcd a b : Int) = g) (h0 : 0 ≤ a) (h1 : 0 ≤ b) (hr : r = a % b) : (Int.gcd b r : Int) = g := by
  obtain ⟨m, rfl⟩ := Int.eq_ofNat_of_zero_le h0
  obtain ⟨n, rfl⟩ := Int.eq_ofNat_of_zero_le h1
  subst hr
  rw [← h]
  congr 1
  show Nat.gcd n (m % n) = Nat.gcd m n
  rw [Nat.gcd_comm m n, Nat.gcd_rec n m, Nat.gcd_comm]
theorem gcd_end {a b g : Int} (h : (Int.gcd a b : Int) = g) (h0 : 0 ≤ a) (hb : ¬ 0 < b) (h1 : 0 ≤ b) : a = g := by
  have : b = 0 := by omega
  subst this
  rw [← h, Int.gcd_zero]
  omega
theorem gcd_size {a b g : Int} {n : Nat} (hb : 0 < b) (hz : Sz n b) (hg : g = (Int.gcd a b : Int)) : 0 < g ∧ Sz n g := by
  have h0 : 0 < Int.gcd a b := Int.gcd_pos_iff.mpr (.inr (by omega))
  have h1 : g ≤ b := hg ▸ Int.le_of_dvd hb (Int.gcd_dvd_right ..)
  exact ⟨by omega, hz.le (by omega)⟩
/-- both by their greatest common divisor -/
theorem lows {t b g : Int} (hg : g = (Int.gcd t b : Int)) (hb : 0 < b) : 0 < g ∧ t = t / g * g ∧ b = b / g * g ∧ Int.gcd (t / g) (b / g) = 1 ∧ 0 < b / g := by
  have h0 : 0 < Int.gcd t b := Int.gcd_pos_iff.mpr (.inr (by omega))
  have g0 : 0 < g := by omega
  have d1 : g ∣ t := hg ▸ Int.gcd_dvd_left ..
  have d2 : g ∣ b := hg ▸ Int.gcd_dvd_right ..
  have e2 := Int.ediv_mul_cancel d2
  refine ⟨g0, (Int.ediv_mul_cancel d1).symm, e2.symm, ?_, ?_⟩
  · rw [Int.gcd_ediv d1 d2, hg, Int.natAbs_natCast, Nat.div_self h0]
  · by_cases h : 0 < b / g
    · exact h
    · have : b / g * g ≤ 0 := Int.mul_nonpos_of_nonpos_of_nonneg (by omega) (by omega)
      omega

/-- the count of a word -/
def kc (kd : Tf_Kind) (b : Int) : Int := if kg kd < b then b - 2 ^ (kw kd).toNat else b
theorem kc1 {kd : Tf_Kind} {b : Int} (h : kg kd < b) : kc kd b = b - 2 ^ (kw kd).toNat := if_pos h
theorem kc0 {kd : Tf_Kind} {b : Int} (h : ¬ kg kd < b) : kc kd b = b := if_neg h
theorem kc_rng {kd : Tf_Kind} {b : Int} (hk : KOk kd) (h0 : 0 ≤ b) (h1 : b < 2 ^ (kw kd).toNat) : -(2 ^ 32) ≤ kc kd b ∧ kc kd b ≤ 2 ^ 32 ∧ kl kd ≤ kc kd b ∧ kc kd b ≤ kg kd ∧ kc kd b % 2 ^ (kw kd).toNat = b := by
  have hr := krng hk
  have e : (kc kd b = b ∨ kc kd b = b - 2 ^ (kw kd).toNat) ∧ kl kd ≤ kc kd b ∧ kc kd b ≤ kg kd := by
    unfold kc
    by_cases z : kg kd < b
    · rw [if_pos z]
      refine ⟨.inr rfl, ?_⟩
      cases kd <;> simp only [kg, kl, kw] at * <;> omega
    · rw [if_neg z]
      refine ⟨.inl rfl, ?_⟩
      cases kd <;> simp only [kg, kl, kw] at * <;> omega
  refine ⟨by omega, by omega, e.2.1, e.2.2, ?_⟩
  rcases e.1 with z | z <;> rw [z]
  · exact Int.emod_eq_of_lt h0 h1
  · rw [show b - 2 ^ (kw kd).toNat = b + 2 ^ (kw kd).toNat * (-1) by omega, Int.add_mul_emod_self_left]; exact Int.emod_eq_of_lt h0 h1
theorem hv0 {r c B P : Int} (hr : r = c) (hb : B = P) : r * P = c * B := by rw [hr, hb]
theorem half_step {t b t' b' c P : Int} (h : t * P = c * b) (e : ∃ k : Nat, b = 2 ^ k) (hb : 1 < b) (ht : t % 2 = 0) (ht' : t' = t / 2) (hb' : b' = b / 2) : t' * P = c * b' ∧ (∃ k : Nat, b' = 2 ^ k) := by
  subst ht' hb'
  obtain ⟨k, rfl⟩ := e
  cases k with
  | zero => simp at hb
  | succ k =>
    have e1 : (2 : Int) ^ (k + 1) / 2 = 2 ^ k := by rw [Int.pow_succ, Int.mul_ediv_cancel _ (by decide)]
    have e2 : (2 : Int) ^ (k + 1) = 2 ^ k * 2 := Int.pow_succ ..
    have e3 := p2 k
    have e4 : t / 2 * 2 = t := by omega
    rw [e1]
    refine ⟨?_, ⟨k, rfl⟩⟩
    have : t / 2 * P * 2 = c * 2 ^ k * 2 := by
      rw [Int.mul_right_comm, e4, h, e2, Int.mul_assoc]
    omega
theorem half_end {t b : Int} (e : ∃ k : Nat, b = 2 ^ k) (h : 1 < b → ¬ t % 2 = 0) : Int.gcd t b = 1 ∧ 1 ≤ b := by
  obtain ⟨k, rfl⟩ := e
  have e3 := p2 k
  refine ⟨?_, by omega⟩
  cases k with
  | zero => simp
  | succ k =>
    have e2 : (2 : Int) ^ (k + 1) = 2 ^ k * 2 := Int.pow_succ ..
    have e4 := p2 k
    have ht := h (by omega)
    unfold Int.gcd
    rw [Int.natAbs_pow]
    refine Nat.Coprime.pow_right _ ?_
    show Nat.gcd t.natAbs 2 = 1
    rw [Nat.gcd_comm, Nat.gcd_rec, show t.natAbs % 2 = 1 by omega]
    rfl
theorem gcd_abs1 {a b x : Int} (hx : x = if a < 0 then -a else a) : (Int.gcd x b : Int) = Int.gcd a b := by
  have e1 : x.natAbs = a.natAbs := by split at hx <;> omega
  unfold Int.gcd; rw [e1]
theorem all_snoc {P : Int → Prop} {xs : List Int} {y : Int} (h : ∀ x ∈ xs, P x) (hy : P y) : ∀ x ∈ xs ++ [y], P x := fun x hx => by
  rcases List.mem_append.mp hx with z | z
  · exact h x z
  · rw [List.mem_singleton.mp z]; exact hy
theorem mem12 {P : Int → Prop} {xs : List Int} {a b c d e y : Int} (hm : y ∈ (xs ++ xs.take 1) ++ [a, b, c, d, e]) (h : ∀ x ∈ xs, P x) (ha : P a) (hb : P b) (hc : P c) (hd : P d) (he : P e) : P y := by
  simp only [List.mem_append, List.mem_cons, List.not_mem_nil, or_false] at hm
  rcases hm with (hm | hm) | rfl | rfl | rfl | rfl | rfl
  · exact h _ hm
  · exact h _ (List.mem_of_mem_take hm)
  all_goals assumption
theorem kp_rng {kd : Tf_Kind} (h : KOk kd) : 0 ≤ kp kd ∧ kp kd < kw kd := by cases kd <;> simp only [KOk, kp, kw] at * <;> omega

def top (i : Nat) : Stmt := PySem.Challenge.pw_overwise_k01_kinds_and_counts.main.body.getD i (.Pass ⟨0, 0, 0, 0⟩)
abbrev s_l_box : Stmt := top 22
theorem sc_l_box : FnScope ["_law_cell_here"] ["_law_cell_here"] (defScope s_l_box) := ⟨rfl, rfl, rfl, by decide +kernel, rfl, by decide +kernel, by decide +kernel⟩
abbrev s_l_take : Stmt := top 23
theorem sc_l_take : FnScope ["_law_box_here", "_law_many", "_law_digit", "_law_number"] ["_law_box_here", "_law_many"] (defScope s_l_take) := ⟨rfl, rfl, rfl, by decide +kernel, rfl, by decide +kernel, by decide +kernel⟩
abbrev s_l_spec : Stmt := top 25
theorem sc_l_spec : FnScope ["_law_box_here", "_law_width", "_law_word"] ["_law_box_here"] (defScope s_l_spec) := ⟨rfl, rfl, rfl, by decide +kernel, rfl, by decide +kernel, by decide +kernel⟩
abbrev s_is_whole : Stmt := top 10
theorem sc_is_whole : FnScope ["thing"] ["thing"] (defScope s_is_whole) := ⟨rfl, rfl, rfl, by decide +kernel, rfl, by decide +kernel, by decide +kernel⟩
abbrev s_need_width : Stmt := top 11
theorem sc_need_width : FnScope ["width"] ["width"] (defScope s_need_width) := ⟨rfl, rfl, rfl, by decide +kernel, rfl, by decide +kernel, by decide +kernel⟩
abbrev s_Kind___init__ : Stmt := inClass (top 15) 0
theorem sc_Kind___init__ : FnScope ["self", "width", "point"] ["self", "width", "point"] (defScope s_Kind___init__) := ⟨rfl, rfl, rfl, by decide +kernel, rfl, by decide +kernel, by decide +kernel⟩
abbrev s_Pointed___init__ : Stmt := inClass (top 18) 0
theorem sc_Pointed___init__ : FnScope ["self", "width", "point"] ["self", "width", "point"] (defScope s_Pointed___init__) := ⟨rfl, rfl, rfl, by decide +kernel, rfl, by decide +kernel, by decide +kernel⟩
abbrev s_Plain___init__ : Stmt := inClass (top 16) 0
theorem sc_Plain___init__ : FnScope ["self", "width"] ["self", "width"] (defScope s_Plain___init__) := ⟨rfl, rfl, rfl, by decide +kernel, rfl, by decide +kernel, by decide +kernel⟩
abbrev s_Signed___init__ : Stmt := inClass (top 17) 0
theorem sc_Signed___init__ : FnScope ["self", "width"] ["self", "width"] (defScope s_Signed___init__) := ⟨rfl, rfl, rfl, by decide +kernel, rfl, by decide +kernel, by decide +kernel⟩
abbrev s_l_kind : Stmt := top 26
theorem sc_l_kind : FnScope ["_law_spec_here"] ["_law_spec_here"] (defScope s_l_kind) := ⟨rfl, rfl, rfl, by decide +kernel, rfl, by decide +kernel, by decide +kernel⟩
abbrev s_l_cell : Stmt := top 21
theorem sc_l_cell : FnScope ["_law_script", "_law_k"] ["_law_script", "_law_k"] (defScope s_l_cell) := ⟨rfl, rfl, rfl, by decide +kernel, rfl, by decide +kernel, by decide +kernel⟩
abbrev s_l_bits : Stmt := top 24
theorem sc_l_bits : FnScope ["_law_box_here", "_law_width", "_law_way", "_law_half", "_law_high"] ["_law_box_here", "_law_width"] (defScope s_l_bits) := ⟨rfl, rfl, rfl, by decide +kernel, rfl, by decide +kernel, by decide +kernel⟩
abbrev s_l_ends : Stmt := top 27
theorem sc_l_ends : FnScope ["_law_spec_here", "_law_half"] ["_law_spec_here"] (defScope s_l_ends) := ⟨rfl, rfl, rfl, by decide +kernel, rfl, by decide +kernel, by decide +kernel⟩
abbrev s_Plain_word : Stmt := inClass (top 16) 1
theorem sc_Plain_word : FnScope ["self"] ["self"] (defScope s_Plain_word) := ⟨rfl, rfl, rfl, by decide +kernel, rfl, by decide +kernel, by decide +kernel⟩
abbrev s_Kind_word : Stmt := inClass (top 15) 1
theorem sc_Kind_word : FnScope ["self"] ["self"] (defScope s_Kind_word) := ⟨rfl, rfl, rfl, by decide +kernel, rfl, by decide +kernel, by decide +kernel⟩
abbrev s_Pointed_word : Stmt := inClass (top 18) 1
theorem sc_Pointed_word : FnScope ["self"] ["self"] (defScope s_Pointed_word) := ⟨rfl, rfl, rfl, by decide +kernel, rfl, by decide +kernel, by decide +kernel⟩
abbrev s_Plain_least : Stmt := inClass (top 16) 2
theorem sc_Plain_least : FnScope ["self"] ["self"] (defScope s_Plain_least) := ⟨rfl, rfl, rfl, by decide +kernel, rfl, by decide +kernel, by decide +kernel⟩
abbrev s_Kind_least : Stmt := inClass (top 15) 2
theorem sc_Kind_least : FnScope ["self"] ["self"] (defScope s_Kind_least) := ⟨rfl, rfl, rfl, by decide +kernel, rfl, by decide +kernel, by decide +kernel⟩
abbrev s_Plain_greatest : Stmt := inClass (top 16) 3
theorem sc_Plain_greatest : FnScope ["self"] ["self"] (defScope s_Plain_greatest) := ⟨rfl, rfl, rfl, by decide +kernel, rfl, by decide +kernel, by decide +kernel⟩
abbrev s_Kind_greatest : Stmt := inClass (top 15) 3
theorem sc_Kind_greatest : FnScope ["self"] ["self"] (defScope s_Kind_greatest) := ⟨rfl, rfl, rfl, by decide +kernel, rfl, by decide +kernel, by decide +kernel⟩
abbrev s_l_whole : Stmt := top 28
theorem sc_l_whole : FnScope ["_law_found"] ["_law_found"] (defScope s_l_whole) := ⟨rfl, rfl, rfl, by decide +kernel, rfl, by decide +kernel, by decide +kernel⟩
abbrev s_l_about : Stmt := top 31
theorem sc_l_about : FnScope ["_law_kind_here", "_law_spec_here", "_law_ends_here", "_law_some", "_law_found", "_law_due", "_law_sorts"] ["_law_kind_here", "_law_spec_here"] (defScope s_l_about) := ⟨rfl, rfl, rfl, by decide +kernel, rfl, by decide +kernel, by decide +kernel⟩
abbrev s_l_words_at : Stmt := top 34
theorem sc_l_words_at : FnScope ["_law_width", "_law_half"] ["_law_width"] (defScope s_l_words_at) := ⟨rfl, rfl, rfl, by decide +kernel, rfl, by decide +kernel, by decide +kernel⟩
abbrev s_l_shared : Stmt := top 29
theorem sc_l_shared : FnScope ["_law_one", "_law_other"] ["_law_one", "_law_other"] (defScope s_l_shared) := ⟨rfl, rfl, rfl, by decide +kernel, rfl, by decide +kernel, by decide +kernel⟩
abbrev s_l_value_right : Stmt := top 30
theorem sc_l_value_right : FnScope ["_law_found", "_law_count", "_law_point"] ["_law_found", "_law_count", "_law_point"] (defScope s_l_value_right) := ⟨rfl, rfl, rfl, by decide +kernel, rfl, by decide +kernel, by decide +kernel⟩
abbrev s_Kind_count_of : Stmt := inClass (top 15) 5
theorem sc_Kind_count_of : FnScope ["self", "bits"] ["self", "bits"] (defScope s_Kind_count_of) := ⟨rfl, rfl, rfl, by decide +kernel, rfl, by decide +kernel, by decide +kernel⟩
abbrev s_Kind_value_of : Stmt := inClass (top 15) 7
theorem sc_Kind_value_of : FnScope ["self", "bits", "top", "bottom"] ["self", "bits"] (defScope s_Kind_value_of) := ⟨rfl, rfl, rfl, by decide +kernel, rfl, by decide +kernel, by decide +kernel⟩
abbrev s_Kind_is_count : Stmt := inClass (top 15) 4
theorem sc_Kind_is_count : FnScope ["self", "number"] ["self", "number"] (defScope s_Kind_is_count) := ⟨rfl, rfl, rfl, by decide +kernel, rfl, by decide +kernel, by decide +kernel⟩
abbrev s_Kind_bits_of : Stmt := inClass (top 15) 6
theorem sc_Kind_bits_of : FnScope ["self", "count"] ["self", "count"] (defScope s_Kind_bits_of) := ⟨rfl, rfl, rfl, by decide +kernel, rfl, by decide +kernel, by decide +kernel⟩
abbrev s_l_word_right : Stmt := top 32
theorem sc_l_word_right : FnScope ["_law_kind_here", "_law_spec_here", "_law_word", "_law_count", "_law_found", "_law_due"] ["_law_kind_here", "_law_spec_here", "_law_word"] (defScope s_l_word_right) := ⟨rfl, rfl, rfl, by decide +kernel, rfl, by decide +kernel, by decide +kernel⟩
abbrev s_same_kind : Stmt := top 19
theorem sc_same_kind : FnScope ["one", "other"] ["one", "other"] (defScope s_same_kind) := ⟨rfl, rfl, rfl, by decide +kernel, rfl, by decide +kernel, by decide +kernel⟩
abbrev s_l_same_right : Stmt := top 33
theorem sc_l_same_right : FnScope ["_law_kind_here", "_law_spec_here", "_law_other_spec", "_law_other", "_law_one", "_law_two", "_law_due", "_law_found"] ["_law_kind_here", "_law_spec_here", "_law_other_spec"] (defScope s_l_same_right) := ⟨rfl, rfl, rfl, by decide +kernel, rfl, by decide +kernel, by decide +kernel⟩
abbrev s_law : Stmt := top 35
theorem sc_law : FnScope ["_law_script", "_law_k", "_law_box_here", "_law_spec_here", "_law_kind_here", "_law_words", "_law_near", "_law_other", "_law_word", "_law_j"] ["_law_script"] (defScope s_law) := ⟨rfl, rfl, rfl, by decide +kernel, rfl, by decide +kernel, by decide +kernel⟩
structure Tx (K : PySem.W.Frag) (mg : Str → Option Value) : Type where
  k_Kind : Ow.Kc K mg "Kind"
  k_Plain : Ow.Kc K mg "Plain"
  k_Pointed : Ow.Kc K mg "Pointed"
  k_Signed : Ow.Kc K mg "Signed"
  ic_Plain : Ow.Ic K k_Plain.C
  ic_Pointed : Ow.Ic K k_Pointed.C
  ic_Signed : Ow.Ic K k_Signed.C
  kic_Plain_Kind : PySem.W.kitOne K (.ref k_Plain.C) (.ref k_Kind.C) = some true
  kic_Plain_Plain : PySem.W.kitOne K (.ref k_Plain.C) (.ref k_Plain.C) = some true
  kic_Plain_Pointed : PySem.W.kitOne K (.ref k_Plain.C) (.ref k_Pointed.C) = some false
  kic_Plain_Signed : PySem.W.kitOne K (.ref k_Plain.C) (.ref k_Signed.C) = some false
  kic_Pointed_Kind : PySem.W.kitOne K (.ref k_Pointed.C) (.ref k_Kind.C) = some true
  kic_Pointed_Plain : PySem.W.kitOne K (.ref k_Pointed.C) (.ref k_Plain.C) = some false
  kic_Pointed_Pointed : PySem.W.kitOne K (.ref k_Pointed.C) (.ref k_Pointed.C) = some true
  kic_Pointed_Signed : PySem.W.kitOne K (.ref k_Pointed.C) (.ref k_Signed.C) = some false
  kic_Signed_Kind : PySem.W.kitOne K (.ref k_Signed.C) (.ref k_Kind.C) = some true
  kic_Signed_Plain : PySem.W.kitOne K (.ref k_Signed.C) (.ref k_Plain.C) = some false
  kic_Signed_Pointed : PySem.W.kitOne K (.ref k_Signed.C) (.ref k_Pointed.C) = some false
  kic_Signed_Signed : PySem.W.kitOne K (.ref k_Signed.C) (.ref k_Signed.C) = some true
  na_Plain_point : NoAttr K k_Plain.C "point"
  na_Plain_width : NoAttr K k_Plain.C "width"
  na_Pointed_point : NoAttr K k_Pointed.C "point"
  na_Pointed_width : NoAttr K k_Pointed.C "width"
  na_Signed_point : NoAttr K k_Signed.C "point"
  na_Signed_width : NoAttr K k_Signed.C "width"
  d_l_box : Ow.Dk K mg "_law_box" "_law_box" s_l_box ["_law_cell_here"]
  d_l_take : Ow.Dk K mg "_law_take" "_law_take" s_l_take ["_law_box_here", "_law_many"]
  d_l_spec : Ow.Dk K mg "_law_spec" "_law_spec" s_l_spec ["_law_box_here"]
  d_is_whole : Ow.Dk K mg "is_whole" "is_whole" s_is_whole ["thing"]
  d_need_width : Ow.Dk K mg "need_width" "need_width" s_need_width ["width"]
  d_Kind___init__ : Ow.Dm K "__init__" "Kind.__init__" s_Kind___init__ ["self", "width", "point"]
  d_Pointed___init__ : Ow.Dm K "__init__" "Pointed.__init__" s_Pointed___init__ ["self", "width", "point"]
  d_Plain___init__ : Ow.Dm K "__init__" "Plain.__init__" s_Plain___init__ ["self", "width"]
  d_Signed___init__ : Ow.Dm K "__init__" "Signed.__init__" s_Signed___init__ ["self", "width"]
  d_l_kind : Ow.Dk K mg "_law_kind" "_law_kind" s_l_kind ["_law_spec_here"]
  d_l_cell : Ow.Dk K mg "_law_cell" "_law_cell" s_l_cell ["_law_script", "_law_k"]
  d_l_bits : Ow.Dk K mg "_law_bits" "_law_bits" s_l_bits ["_law_box_here", "_law_width"]
  d_l_ends : Ow.Dk K mg "_law_ends" "_law_ends" s_l_ends ["_law_spec_here"]
  d_Plain_word : Ow.Dm K "word" "Plain.word" s_Plain_word ["self"]
  mt_Plain_word : Meth K k_Plain.C "word" d_Plain_word.f
  d_Kind_word : Ow.Dm K "word" "Kind.word" s_Kind_word ["self"]
  mt_Signed_word : Meth K k_Signed.C "word" d_Kind_word.f
  d_Pointed_word : Ow.Dm K "word" "Pointed.word" s_Pointed_word ["self"]
  mt_Pointed_word : Meth K k_Pointed.C "word" d_Pointed_word.f
  d_Plain_least : Ow.Dm K "least" "Plain.least" s_Plain_least ["self"]
  mt_Plain_least : Meth K k_Plain.C "least" d_Plain_least.f
  d_Kind_least : Ow.Dm K "least" "Kind.least" s_Kind_least ["self"]
  mt_Pointed_least : Meth K k_Pointed.C "least" d_Kind_least.f
  mt_Signed_least : Meth K k_Signed.C "least" d_Kind_least.f
  d_Plain_greatest : Ow.Dm K "greatest" "Plain.greatest" s_Plain_greatest ["self"]
  mt_Plain_greatest : Meth K k_Plain.C "greatest" d_Plain_greatest.f
  d_Kind_greatest : Ow.Dm K "greatest" "Kind.greatest" s_Kind_greatest ["self"]
  mt_Pointed_greatest : Meth K k_Pointed.C "greatest" d_Kind_greatest.f
  mt_Signed_greatest : Meth K k_Signed.C "greatest" d_Kind_greatest.f
  d_l_whole : Ow.Dk K mg "_law_whole" "_law_whole" s_l_whole ["_law_found"]
  d_l_about : Ow.Dk K mg "_law_about" "_law_about" s_l_about ["_law_kind_here", "_law_spec_here"]
  d_l_words_at : Ow.Dk K mg "_law_words_at" "_law_words_at" s_l_words_at ["_law_width"]
  d_l_shared : Ow.Dk K mg "_law_shared" "_law_shared" s_l_shared ["_law_one", "_law_other"]
  d_l_value_right : Ow.Dk K mg "_law_value_right" "_law_value_right" s_l_value_right ["_law_found", "_law_count", "_law_point"]
  d_Kind_count_of : Ow.Dm K "count_of" "Kind.count_of" s_Kind_count_of ["self", "bits"]
  mt_Plain_count_of : Meth K k_Plain.C "count_of" d_Kind_count_of.f
  mt_Pointed_count_of : Meth K k_Pointed.C "count_of" d_Kind_count_of.f
  mt_Signed_count_of : Meth K k_Signed.C "count_of" d_Kind_count_of.f
  d_Kind_value_of : Ow.Dm K "value_of" "Kind.value_of" s_Kind_value_of ["self", "bits"]
  mt_Plain_value_of : Meth K k_Plain.C "value_of" d_Kind_value_of.f
  mt_Pointed_value_of : Meth K k_Pointed.C "value_of" d_Kind_value_of.f
  mt_Signed_value_of : Meth K k_Signed.C "value_of" d_Kind_value_of.f
  d_Kind_is_count : Ow.Dm K "is_count" "Kind.is_count" s_Kind_is_count ["self", "number"]
  mt_Plain_is_count : Meth K k_Plain.C "is_count" d_Kind_is_count.f
  mt_Pointed_is_count : Meth K k_Pointed.C "is_count" d_Kind_is_count.f
  mt_Signed_is_count : Meth K k_Signed.C "is_count" d_Kind_is_count.f
  d_Kind_bits_of : Ow.Dm K "bits_of" "Kind.bits_of" s_Kind_bits_of ["self", "count"]
  mt_Plain_bits_of : Meth K k_Plain.C "bits_of" d_Kind_bits_of.f
  mt_Pointed_bits_of : Meth K k_Pointed.C "bits_of" d_Kind_bits_of.f
  mt_Signed_bits_of : Meth K k_Signed.C "bits_of" d_Kind_bits_of.f
  d_l_word_right : Ow.Dk K mg "_law_word_right" "_law_word_right" s_l_word_right ["_law_kind_here", "_law_spec_here", "_law_word"]
  d_same_kind : Ow.Dk K mg "same_kind" "same_kind" s_same_kind ["one", "other"]
  d_l_same_right : Ow.Dk K mg "_law_same_right" "_law_same_right" s_l_same_right ["_law_kind_here", "_law_spec_here", "_law_other_spec"]
  d_law : Ow.Dk K mg "law" "law" s_law ["_law_script"]
  mk_Plain : Mk K k_Plain.C d_Plain___init__.f
  mk_Pointed : Mk K k_Pointed.C d_Pointed___init__.f
  mk_Signed : Mk K k_Signed.C d_Signed___init__.f
  cc_Kind___init__ : Ow.Cc K k_Kind.C "__init__" d_Kind___init__.f
  g_LEAST_WIDTH : ∃ t, mg "LEAST_WIDTH" = some (.int 4 t)
  g_GREATEST_WIDTH : ∃ t, mg "GREATEST_WIDTH" = some (.int 32 t)
  z_max : mg "max" = none
  z_isinstance : mg "isinstance" = none
  z_bool : mg "bool" = none
  z_int : mg "int" = none
  z_len : mg "len" = none
  z_abs : mg "abs" = none
  z_tuple : mg "tuple" = none
  z_range : mg "range" = none
  z_min : mg "min" = none
  z_list : mg "list" = none
def cls_Kind {K : PySem.W.Frag} {mg : Str → Option Value} (T : Tx K mg) : F_Kind → Addr
  | .Plain => T.k_Plain.C
  | .Signed => T.k_Signed.C
  | .Pointed => T.k_Pointed.C
theorem kcl_Kind {K : PySem.W.Frag} {mg : Str → Option Value} (T : Tx K mg) (w : F_Kind) : Cls K (cls_Kind T w) := by cases w <;> first | exact T.k_Plain.cl | exact T.k_Signed.cl | exact T.k_Pointed.cl
theorem kna_Kind_point {K : PySem.W.Frag} {mg : Str → Option Value} (T : Tx K mg) (w : F_Kind) : NoAttr K (cls_Kind T w) "point" := by cases w <;> first | exact T.na_Plain_point | exact T.na_Signed_point | exact T.na_Pointed_point
theorem kna_Kind_width {K : PySem.W.Frag} {mg : Str → Option Value} (T : Tx K mg) (w : F_Kind) : NoAttr K (cls_Kind T w) "width" := by cases w <;> first | exact T.na_Plain_width | exact T.na_Signed_width | exact T.na_Pointed_width
def sp_l_box {K : PySem.W.Frag} {mg : Str → Option Value} (T : Tx K mg) : Sp := fun vs H Q E => ∃ (cell : Int), vs = [.int cell] ∧ (∀ (a : Int), ∀ (m : Int), ∀ aq, H aq = none → Q (.ref aq) (upd H aq (.lst [.int (a), .int (m), .int (0)])))
def sp_l_take {K : PySem.W.Frag} {mg : Str → Option Value} (T : Tx K mg) : Sp := fun vs H Q E => ∃ (box : Addr) (many : Int) (a : Int) (m : Int) (c : Int), vs = [.ref box, .int many] ∧ H box = some (.lst [.int (a), .int (m), .int (c)]) ∧ (0 < many) ∧ (many ≤ 18446744073709551616) ∧ (∀ (r : Int), ∀ (a2 : Int), ∀ (c2 : Int), (0 ≤ r) → (r < many) → Q (.int (r)) (upd H box (.lst [.int (a2), .int (m), .int (c2)])))
def sp_l_spec {K : PySem.W.Frag} {mg : Str → Option Value} (T : Tx K mg) : Sp := fun vs H Q E => ∃ (box : Addr) (a : Int) (m : Int) (c : Int), vs = [.ref box] ∧ H box = some (.lst [.int (a), .int (m), .int (c)]) ∧ (∀ (kd : Ow.Tf_Kind), ∀ (a2 : Int), ∀ (c2 : Int), (Ow.KOk kd) → ∀ aq H', Ow.Fm box H H' → H' box = some (.lst [.int (a2), .int (m), .int (c2)]) → H aq = none → H' aq = some (.tup (Ow.tl_Kind kd)) → Q (.ref aq) H')
def sp_is_whole {K : PySem.W.Frag} {mg : Str → Option Value} (T : Tx K mg) : Sp := fun vs H Q E => ∃ (thing : Int), vs = [.int thing] ∧ (Q (.bl (true)) H)
def sp_need_width {K : PySem.W.Frag} {mg : Str → Option Value} (T : Tx K mg) : Sp := fun vs H Q E => ∃ (width : Int), vs = [.int width] ∧ (4 ≤ width) ∧ (width ≤ 32) ∧ (Q (.non) H)
def sp_Kind___init__ {K : PySem.W.Frag} {mg : Str → Option Value} (T : Tx K mg) : Sp := fun vs H Q E => ∃ (self : Addr) (width : Int) (point : Int) (wy : Ow.F_Kind) (dx_self : Addr), vs = [.ref self, .int width, .int point] ∧ H self = some (.ins (Ow.cls_Kind T wy) dx_self []) ∧ (4 ≤ width) ∧ (width ≤ 32) ∧ (∀ H', Ow.Fm self H H' → H' self = some (.ins (Ow.cls_Kind T wy) dx_self [(("width" : Str), V.int (width)), (("point" : Str), V.int (point))]) → Q .non H')
def sp_Pointed___init__ {K : PySem.W.Frag} {mg : Str → Option Value} (T : Tx K mg) : Sp := fun vs H Q E => ∃ (self : Addr) (width : Int) (point : Int) (dx_self : Addr), vs = [.ref self, .int width, .int point] ∧ H self = some (.ins (T.k_Pointed.C) dx_self []) ∧ (4 ≤ width) ∧ (width ≤ 32) ∧ (1 ≤ point) ∧ (point < width) ∧ (∀ H', Ow.Fm self H H' → H' self = some (.ins (T.k_Pointed.C) dx_self [(("width" : Str), V.int (width)), (("point" : Str), V.int (point))]) → Q .non H')
def sp_Plain___init__ {K : PySem.W.Frag} {mg : Str → Option Value} (T : Tx K mg) : Sp := fun vs H Q E => ∃ (self : Addr) (width : Int) (dx_self : Addr), vs = [.ref self, .int width] ∧ H self = some (.ins (T.k_Plain.C) dx_self []) ∧ (4 ≤ width) ∧ (width ≤ 32) ∧ (∀ H', Ow.Fm self H H' → H' self = some (.ins (T.k_Plain.C) dx_self [(("width" : Str), V.int (width)), (("point" : Str), V.int (0))]) → Q .non H')
def sp_Signed___init__ {K : PySem.W.Frag} {mg : Str → Option Value} (T : Tx K mg) : Sp := fun vs H Q E => ∃ (self : Addr) (width : Int) (dx_self : Addr), vs = [.ref self, .int width] ∧ H self = some (.ins (T.k_Signed.C) dx_self []) ∧ (4 ≤ width) ∧ (width ≤ 32) ∧ (∀ H', Ow.Fm self H H' → H' self = some (.ins (T.k_Signed.C) dx_self [(("width" : Str), V.int (width)), (("point" : Str), V.int (0))]) → Q .non H')
def sp_l_kind {K : PySem.W.Frag} {mg : Str → Option Value} (T : Tx K mg) : Sp := fun vs H Q E => ∃ (spec : Addr) (kd : Ow.Tf_Kind), vs = [.ref spec] ∧ H spec = some (.tup (Ow.tl_Kind kd)) ∧ (Ow.KOk kd) ∧ (∀ aq dq H', Same H H' → H aq = none → H' aq = some (.ins (Ow.cls_Kind T (Ow.kn_Kind kd)) dq (Ow.fl_Kind kd)) → Q (.ref aq) H')
def sp_l_cell {K : PySem.W.Frag} {mg : Str → Option Value} (T : Tx K mg) : Sp := fun vs H Q E => ∃ (script : Addr) (k : Int) (ns : List Int), vs = [.ref script, .int k] ∧ SqL K H script (ns.map V.int) ∧ (0 ≤ k) ∧ (∀ (x : Int), Q (.int (x)) H)
def sp_l_bits {K : PySem.W.Frag} {mg : Str → Option Value} (T : Tx K mg) : Sp := fun vs H Q E => ∃ (box : Addr) (width : Int) (a : Int) (m : Int) (c : Int), vs = [.ref box, .int width] ∧ H box = some (.lst [.int (a), .int (m), .int (c)]) ∧ (4 ≤ width) ∧ (width ≤ 32) ∧ (∀ (r : Int), ∀ (a2 : Int), ∀ (c2 : Int), (0 ≤ r) → (r < 2 ^ width.toNat) → ∀ H', Ow.Fm box H H' → H' box = some (.lst [.int (a2), .int (m), .int (c2)]) → Q (.int (r)) H')
def sp_l_ends {K : PySem.W.Frag} {mg : Str → Option Value} (T : Tx K mg) : Sp := fun vs H Q E => ∃ (spec : Addr) (kd : Ow.Tf_Kind), vs = [.ref spec] ∧ H spec = some (.tup (Ow.tl_Kind kd)) ∧ (Ow.KOk kd) ∧ (∀ (lo : Int), ∀ (hi : Int), (lo = Ow.kl kd) → (hi = Ow.kg kd) → ∀ aq H', Same H H' → H aq = none → H' aq = some (.tup [.int (lo), .int (hi)]) → Q (.ref aq) H')
def sp_Plain_word {K : PySem.W.Frag} {mg : Str → Option Value} (T : Tx K mg) : Sp := fun vs H Q E => ∃ (self : Addr), vs = [.ref self] ∧ (Q (.str ("plain")) H)
def sp_Kind_word {K : PySem.W.Frag} {mg : Str → Option Value} (T : Tx K mg) : Sp := fun vs H Q E => ∃ (self : Addr), vs = [.ref self] ∧ (Q (.str ("signed")) H)
def sp_Pointed_word {K : PySem.W.Frag} {mg : Str → Option Value} (T : Tx K mg) : Sp := fun vs H Q E => ∃ (self : Addr), vs = [.ref self] ∧ (Q (.str ("point")) H)
def sp_Plain_least {K : PySem.W.Frag} {mg : Str → Option Value} (T : Tx K mg) : Sp := fun vs H Q E => ∃ (self : Addr) (width : Int) (point : Int) (dx_self : Addr), vs = [.ref self] ∧ H self = some (.ins (T.k_Plain.C) dx_self [(("width" : Str), V.int (width)), (("point" : Str), V.int (point))]) ∧ (4 ≤ width) ∧ (width ≤ 32) ∧ (Q (.int (0)) H)
def sp_Kind_least {K : PySem.W.Frag} {mg : Str → Option Value} (T : Tx K mg) : Sp := fun vs H Q E => ∃ (self : Addr) (width : Int) (point : Int) (wy : Ow.F_Kind) (dx_self : Addr), vs = [.ref self] ∧ H self = some (.ins (Ow.cls_Kind T wy) dx_self [(("width" : Str), V.int (width)), (("point" : Str), V.int (point))]) ∧ (4 ≤ width) ∧ (width ≤ 32) ∧ (Q (.int (0 - 2 ^ (width - 1).toNat)) H)
def sp_Plain_greatest {K : PySem.W.Frag} {mg : Str → Option Value} (T : Tx K mg) : Sp := fun vs H Q E => ∃ (self : Addr) (width : Int) (point : Int) (dx_self : Addr), vs = [.ref self] ∧ H self = some (.ins (T.k_Plain.C) dx_self [(("width" : Str), V.int (width)), (("point" : Str), V.int (point))]) ∧ (4 ≤ width) ∧ (width ≤ 32) ∧ (Q (.int (2 ^ width.toNat - 1)) H)
def sp_Kind_greatest {K : PySem.W.Frag} {mg : Str → Option Value} (T : Tx K mg) : Sp := fun vs H Q E => ∃ (self : Addr) (width : Int) (point : Int) (wy : Ow.F_Kind) (dx_self : Addr), vs = [.ref self] ∧ H self = some (.ins (Ow.cls_Kind T wy) dx_self [(("width" : Str), V.int (width)), (("point" : Str), V.int (point))]) ∧ (4 ≤ width) ∧ (width ≤ 32) ∧ (Q (.int (2 ^ (width - 1).toNat - 1)) H)
def sp_l_whole {K : PySem.W.Frag} {mg : Str → Option Value} (T : Tx K mg) : Sp := fun vs H Q E => ∃ (found : Int), vs = [.int found] ∧ (Q (.bl (true)) H)
def sp_l_about {K : PySem.W.Frag} {mg : Str → Option Value} (T : Tx K mg) : Sp := fun vs H Q E => ∃ (kind : Addr) (spec : Addr) (kd : Ow.Tf_Kind) (dx_kind : Addr), vs = [.ref kind, .ref spec] ∧ H kind = some (.ins (Ow.cls_Kind T (Ow.kn_Kind kd)) dx_kind (Ow.fl_Kind kd)) ∧ H spec = some (.tup (Ow.tl_Kind kd)) ∧ (Ow.KOk kd) ∧ (∀ H', Same H H' → Q (.bl (true)) H')
def sp_l_words_at {K : PySem.W.Frag} {mg : Str → Option Value} (T : Tx K mg) : Sp := fun vs H Q E => ∃ (width : Int), vs = [.int width] ∧ (4 ≤ width) ∧ (width ≤ 32) ∧ (∀ (x : Int), ∀ (y : Int), ∀ (z : Int), (0 ≤ x) → (x < 2 ^ width.toNat) → (0 ≤ y) → (y < 2 ^ width.toNat) → (0 ≤ z) → (z < 2 ^ width.toNat) → ((1 : Int) < 2 ^ width.toNat) → ∀ aq H', Same H H' → H aq = none → H' aq = some (.tup [.int (0), .int (1), .int (x), .int (y), .int (z)]) → Q (.ref aq) H')
def sp_l_shared {K : PySem.W.Frag} {mg : Str → Option Value} (T : Tx K mg) : Sp := fun vs H Q E => ∃ (one : Int) (other : Int), vs = [.int one, .int other] ∧ (0 < other) ∧ (other ≤ 2 ^ 32) ∧ (∀ (g : Int), (g = (Int.gcd one other : Int)) → Q (.int (g)) H)
def sp_l_value_right {K : PySem.W.Frag} {mg : Str → Option Value} (T : Tx K mg) : Sp := fun vs H Q E => ∃ (found : Addr) (count : Int) (point : Int) (t : Int) (b : Int), vs = [.ref found, .int count, .int point] ∧ H found = some (.tup [.int (t), .int (b)]) ∧ (t * 2 ^ point.toNat = count * b) ∧ (1 ≤ b) ∧ (b ≤ 2 ^ 32) ∧ (-(2 ^ 32) ≤ t) ∧ (t ≤ 2 ^ 32) ∧ (Int.gcd t b = 1) ∧ (-(2 ^ 32) ≤ count) ∧ (count ≤ 2 ^ 32) ∧ (0 ≤ point) ∧ (point ≤ 31) ∧ (∀ H', Same H H' → Q (.bl (true)) H')
def sp_Kind_count_of {K : PySem.W.Frag} {mg : Str → Option Value} (T : Tx K mg) : Sp := fun vs H Q E => ∃ (self : Addr) (bits : Int) (kd : Ow.Tf_Kind) (dx_self : Addr), vs = [.ref self, .int bits] ∧ H self = some (.ins (Ow.cls_Kind T (Ow.kn_Kind kd)) dx_self (Ow.fl_Kind kd)) ∧ (Ow.KOk kd) ∧ (0 ≤ bits) ∧ (bits < 2 ^ (Ow.kw kd).toNat) ∧ (∀ (r : Int), (r = Ow.kc kd bits) → ∀ H', Same H H' → Q (.int (r)) H')
def sp_Kind_value_of {K : PySem.W.Frag} {mg : Str → Option Value} (T : Tx K mg) : Sp := fun vs H Q E => ∃ (self : Addr) (bits : Int) (kd : Ow.Tf_Kind) (dx_self : Addr), vs = [.ref self, .int bits] ∧ H self = some (.ins (Ow.cls_Kind T (Ow.kn_Kind kd)) dx_self (Ow.fl_Kind kd)) ∧ (Ow.KOk kd) ∧ (0 ≤ bits) ∧ (bits < 2 ^ (Ow.kw kd).toNat) ∧ (∀ (t : Int), ∀ (b : Int), (t * 2 ^ (Ow.kp kd).toNat = Ow.kc kd bits * b) → (1 ≤ b) → (b ≤ 2 ^ 32) → (-(2 ^ 32) ≤ t) → (t ≤ 2 ^ 32) → (Int.gcd t b = 1) → ∀ aq H', Same H H' → H aq = none → H' aq = some (.tup [.int (t), .int (b)]) → Q (.ref aq) H')
def sp_Kind_is_count {K : PySem.W.Frag} {mg : Str → Option Value} (T : Tx K mg) : Sp := fun vs H Q E => ∃ (self : Addr) (number : Int) (kd : Ow.Tf_Kind) (dx_self : Addr), vs = [.ref self, .int number] ∧ H self = some (.ins (Ow.cls_Kind T (Ow.kn_Kind kd)) dx_self (Ow.fl_Kind kd)) ∧ (Ow.KOk kd) ∧ (∀ (b : Bool), (b = true ↔ Ow.kl kd ≤ number ∧ number ≤ Ow.kg kd) → ∀ H', Same H H' → Q (.bl (b)) H')
def sp_Kind_bits_of {K : PySem.W.Frag} {mg : Str → Option Value} (T : Tx K mg) : Sp := fun vs H Q E => ∃ (self : Addr) (count : Int) (kd : Ow.Tf_Kind) (dx_self : Addr), vs = [.ref self, .int count] ∧ H self = some (.ins (Ow.cls_Kind T (Ow.kn_Kind kd)) dx_self (Ow.fl_Kind kd)) ∧ (Ow.KOk kd) ∧ (Ow.kl kd ≤ count) ∧ (count ≤ Ow.kg kd) ∧ (∀ H', Same H H' → Q (.int (count % 2 ^ (Ow.kw kd).toNat)) H')
def sp_l_word_right {K : PySem.W.Frag} {mg : Str → Option Value} (T : Tx K mg) : Sp := fun vs H Q E => ∃ (kind : Addr) (spec : Addr) (word : Int) (kd : Ow.Tf_Kind) (dx_kind : Addr), vs = [.ref kind, .ref spec, .int word] ∧ H kind = some (.ins (Ow.cls_Kind T (Ow.kn_Kind kd)) dx_kind (Ow.fl_Kind kd)) ∧ H spec = some (.tup (Ow.tl_Kind kd)) ∧ (Ow.KOk kd) ∧ (0 ≤ word) ∧ (word < 2 ^ (Ow.kw kd).toNat) ∧ (∀ H', Same H H' → Q (.bl (true)) H')
def sp_same_kind {K : PySem.W.Frag} {mg : Str → Option Value} (T : Tx K mg) : Sp := fun vs H Q E => ∃ (one : Addr) (other : Addr) (kd : Ow.Tf_Kind) (ke : Ow.Tf_Kind) (dx_one : Addr) (dx_other : Addr), vs = [.ref one, .ref other] ∧ H one = some (.ins (Ow.cls_Kind T (Ow.kn_Kind kd)) dx_one (Ow.fl_Kind kd)) ∧ (Ow.KOk kd) ∧ H other = some (.ins (Ow.cls_Kind T (Ow.kn_Kind ke)) dx_other (Ow.fl_Kind ke)) ∧ (Ow.KOk ke) ∧ (∀ (b : Bool), (b = true ↔ kd = ke) → ∀ H', Same H H' → Q (.bl (b)) H')
def sp_l_same_right {K : PySem.W.Frag} {mg : Str → Option Value} (T : Tx K mg) : Sp := fun vs H Q E => ∃ (kind : Addr) (spec : Addr) (other : Addr) (kd : Ow.Tf_Kind) (ke : Ow.Tf_Kind) (dx_kind : Addr), vs = [.ref kind, .ref spec, .ref other] ∧ H kind = some (.ins (Ow.cls_Kind T (Ow.kn_Kind kd)) dx_kind (Ow.fl_Kind kd)) ∧ H spec = some (.tup (Ow.tl_Kind kd)) ∧ (Ow.KOk kd) ∧ H other = some (.tup (Ow.tl_Kind ke)) ∧ (Ow.KOk ke) ∧ (∀ H', Same H H' → Q (.bl (true)) H')
def sp_law (K : PySem.W.Frag) : Sp := fun vs H Q E => ∃ (script : Addr) (ns : List Int), vs = [.ref script] ∧ SqL K H script (ns.map V.int) ∧ (ns.length ≤ 63) ∧ (∀ H', Same H H' → Q (.bl (true)) H')
section
variable {P : Program} {w : World} {K : PySem.W.Frag} {mg : Str → Option Value} {base : Heap}
theorem ok_l_box (T : Tx K mg) : FnOk P w K mg base CX0 1 T.d_l_box.f T.d_l_box.fd ["_law_cell_here"] (sp_l_box T) := by
  refine T.d_l_box.F.ok sc_l_box (fun vs H Q E h => ?_) (fun cdv A outer s H vs Q E hr h => ?_)
  · obtain ⟨cell, rfl, _⟩ := h
    rfl
  · obtain ⟨cell, rfl, kont⟩ := h
    refine ⟨_, (pss_one (ps_ret (pe_lst (pa_cons (Ow.pe_nmi (pe_callB (call_max2 rfl) (by rfl) T.z_max (by decide +kernel) (pa_cons pe_int (pa_cons (pe_op op_sub (pv 0) (Ow.pe_lit (1000000000000000000) (pe_op op_pow pe_int pe_int))) pa_nil)))) (pa_cons (pe_op Ow.op_modN (pv 0) pe_int) (pa_cons pe_int pa_nil)))))), ?_⟩
    refine ⟨_, rfl, ?_⟩
    refine ⟨_, _, rfl, rfl, ⟨by decide, by decide, by decide⟩, ?_⟩
    refine ⟨by decide, ?_⟩
    refine ⟨_, _, rfl, rfl, ?_⟩
    refine ⟨_, _, rfl, ?_⟩
    refine ⟨_, rfl, fun m h_m => ?_⟩
    have hm_m := Ow.max_ite h_m
    refine ⟨_, rfl, ?_⟩
    refine ⟨_, _, rfl, rfl, (by walk_at "o2"), fun r h_r h0_r h1_r => ?_⟩
    refine ⟨by show 3 ≤ sizeLine; decide, fun p h_p => ?_⟩
    exact kont m r _ h_p
theorem ok_l_take (T : Tx K mg) : FnOk P w K mg base CX0 1 T.d_l_take.f T.d_l_take.fd ["_law_box_here", "_law_many"] (sp_l_take T) := by
  refine T.d_l_take.F.ok sc_l_take (fun vs H Q E h => ?_) (fun cdv A outer s H vs Q E hr h => ?_)
  · obtain ⟨box, many, a, m, c, rfl, _⟩ := h
    rfl
  · obtain ⟨box, many, a, m, c, rfl, c0, c1, c2, kont⟩ := h
    refine ⟨_, (pss_cons (ps_if (pt_cmpR op_gt (pe_ix ix_list (pv 0) pe_int (fun _ _ => rfl)) pe_int (nomark _)) (pss_cons (ps_set (i := 2) sc_l_take.nd rfl (Or.inl rfl) (pe_op Ow.op_modN (pe_ix ix_list (pv 0) pe_int (fun _ _ => rfl)) (pv 1)))
        (pss_cons (ps_asg (pe_op Ow.op_divN (pe_ix ix_list (pv 0) pe_int (fun _ _ => rfl)) (pv 1)) (pg_sub (pv 0) pe_int set_list))
        (pss_one (ps_ret (pv 2))))) pss_nil)
        (pss_cons (ps_asg (Ow.pe_nmi (pe_op op_add (pe_ix ix_list (pv 0) pe_int (fun _ _ => rfl)) pe_int)) (pg_sub (pv 0) pe_int set_list))
        (pss_cons (ps_set (i := 3) sc_l_take.nd rfl (Or.inl rfl) (pe_op Ow.op_modN (pe_op Ow.op_mulN (pe_op op_add (pe_op op_add (pe_ix ix_list (pv 0) pe_int (fun _ _ => rfl)) (pe_op Ow.op_mulN pe_int (pe_ix ix_list (pv 0) pe_int (fun _ _ => rfl)))) pe_int) pe_int) pe_int))
        (pss_cons (ps_set (i := 3) sc_l_take.nd rfl (Or.inl rfl) (pe_op Ow.op_modN (pe_op op_add (pe_op op_add (pe_op Ow.op_mulN (pv 3) (pv 3)) (pe_op Ow.op_mulN pe_int (pe_ix ix_list (pv 0) pe_int (fun _ _ => rfl)))) pe_int) pe_int))
        (pss_one (ps_ret (pe_op Ow.op_modN (pe_op Ow.op_divN (pe_op Ow.op_modN (pe_op Ow.op_mulN (pv 3) (pe_op op_add (pv 3) pe_int)) pe_int) pe_int) (pv 1)))))))), ?_⟩
    refine ⟨_, rfl, ?_⟩
    refine ⟨_, _, _, _, rfl, rfl, (SqL.of c0), (by first | rfl | decide), ?_⟩
    refine ⟨_, _, rfl, rfl, ?_⟩
    refine ⟨_, rfl, ?_⟩
    refine Ow.ifd (fun h1 => ?_) (fun h1 => ?_)
    · refine ⟨_, rfl, ?_⟩
      refine ⟨_, _, _, _, rfl, rfl, (SqL.of c0), (by first | rfl | decide), ?_⟩
      refine ⟨_, rfl, ?_⟩
      refine ⟨_, _, rfl, rfl, (by walk_at "o2"), fun l_digit h_l_digit h0_l_digit h1_l_digit => ?_⟩
      refine ⟨_, rfl, ?_⟩
      refine ⟨_, _, _, _, rfl, rfl, (SqL.of c0), (by first | rfl | decide), ?_⟩
      refine ⟨_, rfl, ?_⟩
      refine ⟨_, _, rfl, rfl, (by walk_at "o2"), fun q h_q => ?_⟩
      refine ⟨_, rfl, ?_⟩
      refine ⟨_, _, _, 0, rfl, rfl, c0, rfl, ?_⟩
      refine ⟨_, rfl, ?_⟩
      exact kont l_digit q c (by walk_at "o2") (by walk_at "o2")
    · refine ⟨_, rfl, ?_⟩
      refine ⟨_, _, _, _, rfl, rfl, (SqL.of c0), (by first | rfl | decide), ?_⟩
      refine ⟨_, _, rfl, rfl, ?_⟩
      refine ⟨_, rfl, fun t h_t => ?_⟩
      refine ⟨_, rfl, ?_⟩
      refine ⟨_, _, _, 2, rfl, rfl, c0, rfl, ?_⟩
      refine ⟨_, rfl, ?_⟩
      refine ⟨_, _, _, _, rfl, rfl, (SqL.of upd_same), (by first | rfl | decide), ?_⟩
      refine ⟨_, rfl, ?_⟩
      refine ⟨_, _, _, _, rfl, rfl, (SqL.of upd_same), (by first | rfl | decide), ?_⟩
      refine ⟨_, _, rfl, rfl, (by walk_at "o2"), fun m_2 h_m_2 => ?_⟩
      refine ⟨_, _, rfl, rfl, ?_⟩
      refine ⟨_, _, rfl, rfl, ?_⟩
      refine ⟨_, _, rfl, rfl, (by walk_at "o2"), fun m_3 h_m_3 => ?_⟩
      refine ⟨_, _, rfl, rfl, (by walk_at "o2"), fun l_number h_l_number h0_l_number h1_l_number => ?_⟩
      refine ⟨_, rfl, ?_⟩
      refine ⟨_, rfl, ?_⟩
      refine ⟨_, _, rfl, rfl, (by walk_at "o2"), fun m_4 h_m_4 => ?_⟩
      refine ⟨_, rfl, ?_⟩
      refine ⟨_, _, _, _, rfl, rfl, (SqL.of upd_same), (by first | rfl | decide), ?_⟩
      refine ⟨_, _, rfl, rfl, (by walk_at "o2"), fun m_5 h_m_5 => ?_⟩
      refine ⟨_, _, rfl, rfl, ?_⟩
      refine ⟨_, _, rfl, rfl, ?_⟩
      refine ⟨_, _, rfl, rfl, (by walk_at "o2"), fun l_number_2 h_l_number_2 h0_l_number_2 h1_l_number_2 => ?_⟩
      refine ⟨_, rfl, ?_⟩
      refine ⟨_, rfl, ?_⟩
      refine ⟨_, _, rfl, rfl, ?_⟩
      refine ⟨_, _, rfl, rfl, (by walk_at "o2"), fun m_6 h_m_6 => ?_⟩
      refine ⟨_, _, rfl, rfl, (by walk_at "o2"), fun r h_r h0_r h1_r => ?_⟩
      refine ⟨_, _, rfl, rfl, (by walk_at "o2"), fun q_2 h_q_2 => ?_⟩
      refine ⟨_, rfl, ?_⟩
      refine ⟨_, _, rfl, rfl, (by walk_at "o2"), fun r_2 h_r_2 h0_r_2 h1_r_2 => ?_⟩
      exact kont r_2 a t (by walk_at "o2") (by walk_at "o2")
theorem ok_l_spec (T : Tx K mg) : FnOk P w K mg base CX0 2 T.d_l_spec.f T.d_l_spec.fd ["_law_box_here"] (sp_l_spec T) := by
  refine T.d_l_spec.F.ok sc_l_spec (fun vs H Q E h => ?_) (fun cdv A outer s H vs Q E hr h => ?_)
  · obtain ⟨box, a, m, c, rfl, _⟩ := h
    rfl
  · obtain ⟨box, a, m, c, rfl, c0, kont⟩ := h
    refine ⟨_, (pss_cons (ps_set (i := 1) sc_l_spec.nd rfl (Or.inl rfl) (Ow.pe_nmi (pe_op op_add pe_int (pe_call (Ow.ok_l_take T) (hr.mono (by decide : 1 ≤ 1)) (by rfl) T.d_l_take.m T.d_l_take.F.kp T.d_l_take.b .nil pass0 (pa_cons (pv 0) (pa_cons pe_int pa_nil))))))
        (pss_cons (ps_set (i := 2) sc_l_spec.nd rfl (Or.inl rfl) (pe_ix ix_list (pe_lst (pa_cons pe_str (pa_cons pe_str (pa_cons pe_str pa_nil)))) (pe_call (Ow.ok_l_take T) (hr.mono (by decide : 1 ≤ 1)) (by rfl) T.d_l_take.m T.d_l_take.F.kp T.d_l_take.b .nil pass0 (pa_cons (pv 0) (pa_cons pe_int pa_nil))) (fun _ _ => rfl)))
        (pss_cons (ps_if (pt_cmpR op_eq (pv 2) pe_str (nomark _)) (pss_one (ps_ret (pe_tup (pa_cons (pv 2) (pa_cons (pv 1) (pa_cons (pe_op op_add pe_int (pe_call (Ow.ok_l_take T) (hr.mono (by decide : 1 ≤ 1)) (by rfl) T.d_l_take.m T.d_l_take.F.kp T.d_l_take.b .nil pass0 (pa_cons (pv 0) (pa_cons (pe_op op_sub (pv 1) pe_int) pa_nil)))) pa_nil)))))) pss_nil)
        (pss_one (ps_ret (pe_tup (pa_cons (pv 2) (pa_cons (pv 1) (pa_cons pe_int pa_nil))))))))), ?_⟩
    refine ⟨_, rfl, ?_⟩
    refine ⟨_, _, _, _, _, rfl, c0, (by walk_at "o2"), (by walk_at "o2"), fun t a2 c2 h1 h2 => ?_⟩
    refine ⟨_, _, rfl, rfl, ?_⟩
    refine ⟨_, rfl, fun l_width h_l_width => ?_⟩
    have z_l_width : Ow.Sz 6 l_width := by rw [h_l_width]; exact (Ow.Sz.add (Ow.Sz.mono (Ow.Sz.lit (n := 3) (i := 4) (by decide)) (by decide : 3 ≤ 5)) (Ow.Sz.rng (n := 5) h1 h2 (by decide)))
    refine ⟨by show 3 ≤ sizeLine; decide, fun p h_p => ?_⟩
    refine ⟨_, rfl, ?_⟩
    refine ⟨_, _, _, _, _, rfl, (Ow.at_new h_p upd_same), (by walk_at "o2"), (by walk_at "o2"), fun t_2 a2_2 c2_2 h3 h4 => ?_⟩
    refine Ow.ixs3 (SqL.of (Ow.at_mut (Ow.ne_sym (ne_of_none upd_same h_p)) upd_same)) (by walk_at "o2") (fun it h_it => ?_)
    rcases h_it with ⟨hz_it, rfl⟩ | ⟨hz_it, rfl⟩ | ⟨hz_it, rfl⟩
    · refine ⟨_, rfl, ?_⟩
      refine ⟨rfl, ?_⟩
      refine ⟨_, rfl, ?_⟩
      refine Ow.ifeqs (fun h => absurd h (by decide +kernel)) (fun _ => ?_)
      refine ⟨_, rfl, ?_⟩
      refine ⟨_, rfl, ?_⟩
      refine ⟨by show 3 ≤ sizeLine; decide, fun p_2 h_p_2 => ?_⟩
      exact kont (Ow.Tf_Kind.plain l_width) a2_2 c2_2 (by walk_at "o2") _ _ ((((Ow.Fm.refl.mut).same (Ow.same_new h_p)).mut).same (Ow.same_new h_p_2)) (Ow.at_new h_p_2 upd_same) (Ow.Fm.free (((Ow.Fm.refl.mut).same (Ow.same_new h_p)).mut) upd_same h_p_2) upd_same
    · refine ⟨_, rfl, ?_⟩
      refine ⟨rfl, ?_⟩
      refine ⟨_, rfl, ?_⟩
      refine Ow.ifeqs (fun h => absurd h (by decide +kernel)) (fun _ => ?_)
      refine ⟨_, rfl, ?_⟩
      refine ⟨_, rfl, ?_⟩
      refine ⟨by show 3 ≤ sizeLine; decide, fun p_3 h_p_3 => ?_⟩
      exact kont (Ow.Tf_Kind.signed l_width) a2_2 c2_2 (by walk_at "o2") _ _ ((((Ow.Fm.refl.mut).same (Ow.same_new h_p)).mut).same (Ow.same_new h_p_3)) (Ow.at_new h_p_3 upd_same) (Ow.Fm.free (((Ow.Fm.refl.mut).same (Ow.same_new h_p)).mut) upd_same h_p_3) upd_same
    · refine ⟨_, rfl, ?_⟩
      refine ⟨rfl, ?_⟩
      refine ⟨_, rfl, ?_⟩
      refine Ow.ifeqs (fun _ => ?_) (fun h => absurd rfl h)
      refine ⟨_, rfl, ?_⟩
      refine ⟨_, rfl, ?_⟩
      refine ⟨_, rfl, ?_⟩
      refine ⟨_, rfl, ?_⟩
      refine ⟨_, _, rfl, rfl, ?_⟩
      refine ⟨_, _, _, _, _, rfl, upd_same, (by walk_at "o2"), (by walk_at "o2"), fun t_3 a2_3 c2_3 h5 h6 => ?_⟩
      refine ⟨_, _, rfl, rfl, ?_⟩
      refine ⟨by show 3 ≤ sizeLine; decide, fun p_4 h_p_4 => ?_⟩
      exact kont (Ow.Tf_Kind.point l_width (1 + t_3)) a2_3 c2_3 (by walk_at "o2") _ _ (((((Ow.Fm.refl.mut).same (Ow.same_new h_p)).mut).mut).same (Ow.same_new h_p_4)) (Ow.at_new h_p_4 upd_same) (Ow.Fm.free ((((Ow.Fm.refl.mut).same (Ow.same_new h_p)).mut).mut) upd_same h_p_4) upd_same
theorem ok_is_whole (T : Tx K mg) : FnOk P w K mg base CX0 1 T.d_is_whole.f T.d_is_whole.fd ["thing"] (sp_is_whole T) := by
  refine T.d_is_whole.F.ok sc_is_whole (fun vs H Q E h => ?_) (fun cdv A outer s H vs Q E hr h => ?_)
  · obtain ⟨thing, rfl, _⟩ := h
    rfl
  · obtain ⟨thing, rfl, kont⟩ := h
    refine ⟨_, (pss_one (ps_ret (pe_and (pe_callB call_isi (by rfl) T.z_isinstance (by decide +kernel) (pa_cons (pv 0) (pa_cons (pe_bltn (v := .ty "int") (by rfl) T.z_int (by decide +kernel) rfl) pa_nil))) (pe_one (pe_not (pe_callB call_isi (by rfl) T.z_isinstance (by decide +kernel) (pa_cons (pv 0) (pa_cons (pe_bltn (v := .ty "bool") (by rfl) T.z_bool (by decide +kernel) rfl) pa_nil)))))))), ?_⟩
    refine ⟨_, rfl, ?_⟩
    refine ⟨_, _, _, _, true, rfl, .ty _, .base (.int _), kit_ty (by decide +kernel), ?_⟩
    refine ⟨_, rfl, ?_⟩
    refine iteT ?_
    refine ⟨_, rfl, ?_⟩
    refine ⟨_, _, _, _, false, rfl, .ty _, .base (.int _), kit_ty (by decide +kernel), ?_⟩
    refine ⟨_, rfl, ?_⟩
    exact kont
theorem ok_need_width (T : Tx K mg) : FnOk P w K mg base CX0 3 T.d_need_width.f T.d_need_width.fd ["width"] (sp_need_width T) := by
  refine T.d_need_width.F.ok sc_need_width (fun vs H Q E h => ?_) (fun cdv A outer s H vs Q E hr h => ?_)
  · obtain ⟨width, rfl, _⟩ := h
    rfl
  · obtain ⟨width, rfl, c0, c1, kont⟩ := h
    have p32_width := Ow.pow2_le32 (w := width) (by omega)
    have p0_width := Ow.p2 width.toNat
    refine ⟨_, (pss_one (ps_if (PW.pt (pw_or (pt_not (pt_val (pe_call (Ow.ok_is_whole T) (hr.mono (by decide : 1 ≤ 2)) (by rfl) T.d_is_whole.m T.d_is_whole.F.kp T.d_is_whole.b .nil pass0 (pa_cons (pv 0) pa_nil)))) (pw_or1 (pt_not (pt_chain op_le op_le (pe_glob (v := .int (4)) rfl T.g_LEAST_WIDTH.choose_spec ⟨_, rfl⟩) (pv 0) (pe_glob (v := .int (32)) rfl T.g_GREATEST_WIDTH.choose_spec ⟨_, rfl⟩)))))) (pss_one ps_never) pss_nil)), ?_⟩
    refine ⟨_, rfl, ?_⟩
    refine ⟨_, rfl, ?_⟩
    refine ⟨_, rfl, ?_⟩
    refine iteF ?_
    refine ⟨_, rfl, ?_⟩
    refine ⟨_, _, rfl, rfl, ?_⟩
    refine ⟨_, rfl, ?_⟩
    refine Ow.ifd (fun h1 => ?_) (fun h1 => ?_)
    · refine ⟨_, _, rfl, rfl, ?_⟩
      refine ⟨_, rfl, ?_⟩
      refine Ow.ifnd (fun h2 => ?_) (fun h2 => ?_)
      · exact ((by walk_at "o2") : False).elim
      · exact kont
    · refine ⟨_, rfl, ?_⟩
      refine iteT ?_
      exact ((by walk_at "o2") : False).elim
theorem ok_Kind___init__ (T : Tx K mg) : FnOk P w K mg base CX0 4 T.d_Kind___init__.f T.d_Kind___init__.fd ["self", "width", "point"] (sp_Kind___init__ T) := by
  refine T.d_Kind___init__.F.ok sc_Kind___init__ (fun vs H Q E h => ?_) (fun cdv A outer s H vs Q E hr h => ?_)
  · obtain ⟨self, width, point, wy, dx_self, rfl, _⟩ := h
    rfl
  · obtain ⟨self, width, point, wy, dx_self, rfl, c0, c1, c2, kont⟩ := h
    have p32_width := Ow.pow2_le32 (w := width) (by omega)
    have p0_width := Ow.p2 width.toNat
    refine ⟨_, (pss_cons (ps_expr (pe_call (Ow.ok_need_width T) (hr.mono (by decide : 3 ≤ 3)) (by rfl) T.d_need_width.m T.d_need_width.F.kp T.d_need_width.b .nil pass0 (pa_cons (pv 1) pa_nil)))
        (pss_cons (ps_fld (pv 0) (pv 1) rfl)
        (pss_one (ps_fld (pv 0) (pv 2) rfl)))), ?_⟩
    refine ⟨_, rfl, ?_⟩
    refine ⟨_, rfl, (by walk_at "o2"), (by walk_at "o2"), ?_⟩
    refine ⟨_, rfl, ?_⟩
    refine ⟨_, rfl, ?_⟩
    refine ⟨_, _, _, _, rfl, c0, (Ow.kcl_Kind T wy), (Ow.kna_Kind_width T wy), (show 0 < 1000 by decide), ?_⟩
    refine ⟨_, rfl, ?_⟩
    refine ⟨_, rfl, ?_⟩
    refine ⟨_, _, _, _, rfl, upd_same, (Ow.kcl_Kind T wy), (Ow.kna_Kind_point T wy), (show 1 < 1000 by decide), ?_⟩
    exact kont _ ((Ow.Fm.refl.mut).mut) upd_same
theorem ok_Pointed___init__ (T : Tx K mg) : FnOk P w K mg base CX0 5 T.d_Pointed___init__.f T.d_Pointed___init__.fd ["self", "width", "point"] (sp_Pointed___init__ T) := by
  refine T.d_Pointed___init__.F.ok sc_Pointed___init__ (fun vs H Q E h => ?_) (fun cdv A outer s H vs Q E hr h => ?_)
  · obtain ⟨self, width, point, dx_self, rfl, _⟩ := h
    rfl
  · obtain ⟨self, width, point, dx_self, rfl, c0, c1, c2, c3, c4, kont⟩ := h
    have p32_width := Ow.pow2_le32 (w := width) (by omega)
    have p0_width := Ow.p2 width.toNat
    refine ⟨_, (pss_cons (ps_expr (Ow.pe_cdef (by rfl) T.k_Kind.m T.cc_Kind___init__.rd T.cc_Kind___init__.cv T.d_Kind___init__.F.kp (Ow.ok_Kind___init__ T) (hr.mono (by decide : 4 ≤ 4)) T.d_Kind___init__.b pass0 (pa_cons (pv 0) (pa_cons (pv 1) (pa_cons pe_int pa_nil)))))
        (pss_cons (ps_if (PW.pt (pw_or (pt_not (pt_val (pe_call (Ow.ok_is_whole T) (hr.mono (by decide : 1 ≤ 4)) (by rfl) T.d_is_whole.m T.d_is_whole.F.kp T.d_is_whole.b .nil pass0 (pa_cons (pv 2) pa_nil)))) (pw_or1 (pt_not (pt_chain op_le op_lt pe_int (pv 2) (pv 1)))))) (pss_one ps_never) pss_nil)
        (pss_one (ps_fld (pv 0) (pv 2) rfl)))), ?_⟩
    refine ⟨_, rfl, ?_⟩
    refine ⟨_, rfl, ?_⟩
    refine ⟨_, _, _, Ow.F_Kind.Pointed, _, rfl, c0, (by walk_at "o2"), (by walk_at "o2"), fun Hn h1 h2 => ?_⟩
    refine ⟨_, rfl, ?_⟩
    refine ⟨_, rfl, ?_⟩
    refine ⟨_, rfl, ?_⟩
    refine iteF ?_
    refine ⟨_, rfl, ?_⟩
    refine ⟨_, _, rfl, rfl, ?_⟩
    refine ⟨_, rfl, ?_⟩
    refine Ow.ifd (fun h3 => ?_) (fun h3 => ?_)
    · refine ⟨_, rfl, ?_⟩
      refine ⟨_, _, rfl, rfl, ?_⟩
      refine ⟨_, rfl, ?_⟩
      refine Ow.ifnd (fun h4 => ?_) (fun h4 => ?_)
      · exact ((by walk_at "o2") : False).elim
      · refine ⟨_, rfl, ?_⟩
        refine ⟨_, rfl, ?_⟩
        refine ⟨_, _, _, _, rfl, h2, T.k_Pointed.cl, T.na_Pointed_point, (show 2 < 1000 by decide), ?_⟩
        exact kont _ ((Ow.Fm.refl.trans h1).mut) upd_same
    · refine ⟨_, rfl, ?_⟩
      refine iteT ?_
      exact ((by walk_at "o2") : False).elim
theorem ok_Plain___init__ (T : Tx K mg) : FnOk P w K mg base CX0 5 T.d_Plain___init__.f T.d_Plain___init__.fd ["self", "width"] (sp_Plain___init__ T) := by
  refine T.d_Plain___init__.F.ok sc_Plain___init__ (fun vs H Q E h => ?_) (fun cdv A outer s H vs Q E hr h => ?_)
  · obtain ⟨self, width, dx_self, rfl, _⟩ := h
    rfl
  · obtain ⟨self, width, dx_self, rfl, c0, c1, c2, kont⟩ := h
    have p32_width := Ow.pow2_le32 (w := width) (by omega)
    have p0_width := Ow.p2 width.toNat
    refine ⟨_, (pss_one (ps_expr (Ow.pe_cdef (by rfl) T.k_Kind.m T.cc_Kind___init__.rd T.cc_Kind___init__.cv T.d_Kind___init__.F.kp (Ow.ok_Kind___init__ T) (hr.mono (by decide : 4 ≤ 4)) T.d_Kind___init__.b pass0 (pa_cons (pv 0) (pa_cons (pv 1) (pa_cons pe_int pa_nil)))))), ?_⟩
    refine ⟨_, rfl, ?_⟩
    refine ⟨_, rfl, ?_⟩
    refine ⟨_, _, _, Ow.F_Kind.Plain, _, rfl, c0, (by walk_at "o2"), (by walk_at "o2"), fun Hn h1 h2 => ?_⟩
    exact kont _ (Ow.Fm.refl.trans h1) h2
theorem ok_Signed___init__ (T : Tx K mg) : FnOk P w K mg base CX0 5 T.d_Signed___init__.f T.d_Signed___init__.fd ["self", "width"] (sp_Signed___init__ T) := by
  refine T.d_Signed___init__.F.ok sc_Signed___init__ (fun vs H Q E h => ?_) (fun cdv A outer s H vs Q E hr h => ?_)
  · obtain ⟨self, width, dx_self, rfl, _⟩ := h
    rfl
  · obtain ⟨self, width, dx_self, rfl, c0, c1, c2, kont⟩ := h
    have p32_width := Ow.pow2_le32 (w := width) (by omega)
    have p0_width := Ow.p2 width.toNat
    refine ⟨_, (pss_one (ps_expr (Ow.pe_cdef (by rfl) T.k_Kind.m T.cc_Kind___init__.rd T.cc_Kind___init__.cv T.d_Kind___init__.F.kp (Ow.ok_Kind___init__ T) (hr.mono (by decide : 4 ≤ 4)) T.d_Kind___init__.b pass0 (pa_cons (pv 0) (pa_cons (pv 1) (pa_cons pe_int pa_nil)))))), ?_⟩
    refine ⟨_, rfl, ?_⟩
    refine ⟨_, rfl, ?_⟩
    refine ⟨_, _, _, Ow.F_Kind.Signed, _, rfl, c0, (by walk_at "o2"), (by walk_at "o2"), fun Hn h1 h2 => ?_⟩
    exact kont _ (Ow.Fm.refl.trans h1) h2
theorem ok_l_kind (T : Tx K mg) : FnOk P w K mg base CX0 7 T.d_l_kind.f T.d_l_kind.fd ["_law_spec_here"] (sp_l_kind T) := by
  refine T.d_l_kind.F.ok sc_l_kind (fun vs H Q E h => ?_) (fun cdv A outer s H vs Q E hr h => ?_)
  · obtain ⟨spec, kd, rfl, _⟩ := h
    rfl
  · obtain ⟨spec, kd, rfl, c0, c1, kont⟩ := h
    refine ⟨_, (pss_cons (ps_if (pt_cmpR op_eq (pe_ix ix_tup (pv 0) pe_int (fun _ _ => rfl)) pe_str (nomark _)) (pss_one (ps_ret (pe_make T.mk_Plain (Ow.ok_Plain___init__ T) (hr.mono (by decide : 6 ≤ 6)) (by rfl) T.k_Plain.m T.d_Plain___init__.b .nil pass0 (pa_cons (pe_ix ix_tup (pv 0) pe_int (fun _ _ => rfl)) pa_nil)))) pss_nil)
        (pss_cons (ps_if (pt_cmpR op_eq (pe_ix ix_tup (pv 0) pe_int (fun _ _ => rfl)) pe_str (nomark _)) (pss_one (ps_ret (pe_make T.mk_Signed (Ow.ok_Signed___init__ T) (hr.mono (by decide : 6 ≤ 6)) (by rfl) T.k_Signed.m T.d_Signed___init__.b .nil pass0 (pa_cons (pe_ix ix_tup (pv 0) pe_int (fun _ _ => rfl)) pa_nil)))) pss_nil)
        (pss_one (ps_ret (pe_make T.mk_Pointed (Ow.ok_Pointed___init__ T) (hr.mono (by decide : 6 ≤ 6)) (by rfl) T.k_Pointed.m T.d_Pointed___init__.b .nil pass0 (pa_cons (pe_ix ix_tup (pv 0) pe_int (fun _ _ => rfl)) (pa_cons (pe_ix ix_tup (pv 0) pe_int (fun _ _ => rfl)) pa_nil))))))), ?_⟩
    rcases kd with ⟨kd_w⟩ | ⟨kd_w_2⟩ | ⟨kd_w_3, kd_p⟩
    · replace c0 : H spec = some (.tup [.str ("plain"), .int (kd_w), .int (0)]) := c0
      simp only [Ow.KOk] at c1
      refine ⟨_, rfl, ?_⟩
      refine ⟨_, _, _, _, rfl, rfl, (SqT.of c0), (by first | rfl | decide), ?_⟩
      refine ⟨rfl, ?_⟩
      refine ⟨_, rfl, ?_⟩
      refine Ow.ifeqs (fun _ => ?_) (fun h => absurd rfl h)
      refine ⟨_, rfl, ?_⟩
      refine ⟨_, _, _, _, rfl, rfl, (SqT.of c0), (by first | rfl | decide), ?_⟩
      intro o dx h1 h2 h3
      refine ⟨_, _, _, rfl, upd_same, (by walk_at "o2"), (by walk_at "o2"), fun Hn h4 h5 => ?_⟩
      refine ⟨rfl, ?_⟩
      exact kont _ _ _ (Ow.same_frame ((Ow.same_new h2).trans (Ow.same_new (Ow.free2 h3 h1))) h4 h1) h1 h5
    · replace c0 : H spec = some (.tup [.str ("signed"), .int (kd_w_2), .int (0)]) := c0
      simp only [Ow.KOk] at c1
      refine ⟨_, rfl, ?_⟩
      refine ⟨_, _, _, _, rfl, rfl, (SqT.of c0), (by first | rfl | decide), ?_⟩
      refine ⟨rfl, ?_⟩
      refine ⟨_, rfl, ?_⟩
      refine Ow.ifeqs (fun h => absurd h (by decide +kernel)) (fun _ => ?_)
      refine ⟨_, rfl, ?_⟩
      refine ⟨_, _, _, _, rfl, rfl, (SqT.of c0), (by first | rfl | decide), ?_⟩
      refine ⟨rfl, ?_⟩
      refine ⟨_, rfl, ?_⟩
      refine Ow.ifeqs (fun _ => ?_) (fun h => absurd rfl h)
      refine ⟨_, rfl, ?_⟩
      refine ⟨_, _, _, _, rfl, rfl, (SqT.of c0), (by first | rfl | decide), ?_⟩
      intro o_2 dx_2 h6 h7 h8
      refine ⟨_, _, _, rfl, upd_same, (by walk_at "o2"), (by walk_at "o2"), fun Hn_2 h9 h10 => ?_⟩
      refine ⟨rfl, ?_⟩
      exact kont _ _ _ (Ow.same_frame ((Ow.same_new h7).trans (Ow.same_new (Ow.free2 h8 h6))) h9 h6) h6 h10
    · replace c0 : H spec = some (.tup [.str ("point"), .int (kd_w_3), .int (kd_p)]) := c0
      simp only [Ow.KOk] at c1
      refine ⟨_, rfl, ?_⟩
      refine ⟨_, _, _, _, rfl, rfl, (SqT.of c0), (by first | rfl | decide), ?_⟩
      refine ⟨rfl, ?_⟩
      refine ⟨_, rfl, ?_⟩
      refine Ow.ifeqs (fun h => absurd h (by decide +kernel)) (fun _ => ?_)
      refine ⟨_, rfl, ?_⟩
      refine ⟨_, _, _, _, rfl, rfl, (SqT.of c0), (by first | rfl | decide), ?_⟩
      refine ⟨rfl, ?_⟩
      refine ⟨_, rfl, ?_⟩
      refine Ow.ifeqs (fun h => absurd h (by decide +kernel)) (fun _ => ?_)
      refine ⟨_, rfl, ?_⟩
      refine ⟨_, _, _, _, rfl, rfl, (SqT.of c0), (by first | rfl | decide), ?_⟩
      refine ⟨_, rfl, ?_⟩
      refine ⟨_, _, _, _, rfl, rfl, (SqT.of c0), (by first | rfl | decide), ?_⟩
      intro o_3 dx_3 h11 h12 h13
      refine ⟨_, _, _, _, rfl, upd_same, (by walk_at "o2"), (by walk_at "o2"), (by walk_at "o2"), (by walk_at "o2"), fun Hn_3 h14 h15 => ?_⟩
      refine ⟨rfl, ?_⟩
      exact kont _ _ _ (Ow.same_frame ((Ow.same_new h12).trans (Ow.same_new (Ow.free2 h13 h11))) h14 h11) h11 h15
theorem ok_l_cell (T : Tx K mg) : FnOk P w K mg base CX0 1 T.d_l_cell.f T.d_l_cell.fd ["_law_script", "_law_k"] (sp_l_cell T) := by
  refine T.d_l_cell.F.ok sc_l_cell (fun vs H Q E h => ?_) (fun cdv A outer s H vs Q E hr h => ?_)
  · obtain ⟨script, k, ns, rfl, _⟩ := h
    rfl
  · obtain ⟨script, k, ns, rfl, c0, c1, kont⟩ := h
    refine ⟨_, (pss_cons (ps_if (pt_cmpR op_lt (pv 1) (Ow.pe_nmi (pe_callB call_len_seq (by rfl) T.z_len (by decide +kernel) (pa_cons (pv 0) pa_nil))) (nomark _)) (pss_one (ps_ret (pe_ix ix_list (pv 0) (pv 1) (fun _ _ => rfl)))) pss_nil)
        (pss_one (ps_ret (pe_op op_add (pe_op Ow.op_mulN pe_int (pv 1)) pe_int)))), ?_⟩
    refine ⟨_, rfl, ?_⟩
    refine ⟨_, rfl, ?_⟩
    refine ⟨_, _, rfl, .inl c0, ?_⟩
    refine ⟨_, rfl, fun len h_len => ?_⟩
    rw [List.length_map] at h_len
    refine ⟨_, _, rfl, rfl, ?_⟩
    refine ⟨_, rfl, ?_⟩
    refine Ow.ifd (fun h1 => ?_) (fun h1 => ?_)
    · refine ⟨_, rfl, ?_⟩
      refine ⟨_, rfl, ?_⟩
      refine Ow.ixn (xs := ns) (i := k) c0 (by walk_at "o2") (by walk_at "o2") (fun it h_it => ?_)
      exact kont it
    · refine ⟨_, rfl, ?_⟩
      refine ⟨_, _, rfl, rfl, (by walk_at "o2"), fun m h_m => ?_⟩
      refine ⟨_, _, rfl, rfl, ?_⟩
      exact kont (m + 31)
theorem ok_l_bits (T : Tx K mg) : FnOk P w K mg base CX0 2 T.d_l_bits.f T.d_l_bits.fd ["_law_box_here", "_law_width"] (sp_l_bits T) := by
  refine T.d_l_bits.F.ok sc_l_bits (fun vs H Q E h => ?_) (fun cdv A outer s H vs Q E hr h => ?_)
  · obtain ⟨box, width, a, m, c, rfl, _⟩ := h
    rfl
  · obtain ⟨box, width, a, m, c, rfl, c0, c1, c2, kont⟩ := h
    have p32_width := Ow.pow2_le32 (w := width) (by omega)
    have p0_width := Ow.p2 width.toNat
    refine ⟨_, (pss_cons (ps_set (i := 2) sc_l_bits.nd rfl (Or.inl rfl) (pe_call (Ow.ok_l_take T) (hr.mono (by decide : 1 ≤ 1)) (by rfl) T.d_l_take.m T.d_l_take.F.kp T.d_l_take.b .nil pass0 (pa_cons (pv 0) (pa_cons pe_int pa_nil))))
        (pss_cons (ps_if (pt_cmpR op_lt (pv 2) pe_int (nomark _)) (pss_cons (ps_set (i := 3) sc_l_bits.nd rfl (Or.inl rfl) (pe_op Ow.op_shl1 pe_int (pe_op op_sub (pv 1) pe_int)))
        (pss_one (ps_ret (pe_ix ix_list (pe_lst (pa_cons pe_int (pa_cons (pe_op op_sub (pe_op Ow.op_mulN pe_int (pv 3)) pe_int) (pa_cons (pv 3) (pa_cons (pe_op op_sub (pv 3) pe_int) (pa_cons (pe_op Ow.op_shl1 pe_int (pe_call (Ow.ok_l_take T) (hr.mono (by decide : 1 ≤ 1)) (by rfl) T.d_l_take.m T.d_l_take.F.kp T.d_l_take.b .nil pass0 (pa_cons (pv 0) (pa_cons (pv 1) pa_nil)))) pa_nil)))))) (pv 2) (fun _ _ => rfl))))) pss_nil)
        (pss_cons (ps_if (pt_cmpR op_gt (pe_ix ix_list (pv 0) pe_int (fun _ _ => rfl)) pe_int (nomark _)) (pss_one (ps_ret (pe_call (Ow.ok_l_take T) (hr.mono (by decide : 1 ≤ 1)) (by rfl) T.d_l_take.m T.d_l_take.F.kp T.d_l_take.b .nil pass0 (pa_cons (pv 0) (pa_cons (pe_op Ow.op_shl1 pe_int (pv 1)) pa_nil))))) pss_nil)
        (pss_cons (ps_set (i := 4) sc_l_bits.nd rfl (Or.inl rfl) (pe_call (Ow.ok_l_take T) (hr.mono (by decide : 1 ≤ 1)) (by rfl) T.d_l_take.m T.d_l_take.F.kp T.d_l_take.b .nil pass0 (pa_cons (pv 0) (pa_cons pe_int pa_nil))))
        (pss_one (ps_ret (pe_op Ow.op_mask (pe_op Ow.op_bor (pe_op Ow.op_shlN (pv 4) pe_int) (pe_call (Ow.ok_l_take T) (hr.mono (by decide : 1 ≤ 1)) (by rfl) T.d_l_take.m T.d_l_take.F.kp T.d_l_take.b .nil pass0 (pa_cons (pv 0) (pa_cons pe_int pa_nil)))) (pe_op op_sub (pe_op Ow.op_shl1 pe_int (pv 1)) pe_int)))))))), ?_⟩
    refine ⟨_, rfl, ?_⟩
    refine ⟨_, _, _, _, _, rfl, c0, (by walk_at "o2"), (by walk_at "o2"), fun l_way a2 c2 h1 h2 => ?_⟩
    refine ⟨_, rfl, ?_⟩
    refine ⟨_, _, rfl, rfl, ?_⟩
    refine ⟨_, rfl, ?_⟩
    refine Ow.ifd (fun h3 => ?_) (fun h3 => ?_)
    · refine ⟨_, rfl, ?_⟩
      refine ⟨_, _, rfl, rfl, ?_⟩
      refine ⟨_, rfl, rfl, (by walk_at "o2"), fun l_half h_l_half h0_l_half => ?_⟩
      have e2 := Ow.pow2_pred (w := width) (by omega)
      have e3 := Ow.p2 (width - 1).toNat
      refine ⟨_, rfl, ?_⟩
      refine ⟨_, _, rfl, rfl, (by walk_at "o2"), fun m_2 h_m_2 => ?_⟩
      refine ⟨_, _, rfl, rfl, ?_⟩
      refine ⟨_, rfl, ?_⟩
      refine ⟨_, rfl, ?_⟩
      refine ⟨_, _, rfl, rfl, ?_⟩
      refine ⟨_, rfl, ?_⟩
      refine ⟨_, rfl, ?_⟩
      refine ⟨_, _, _, _, _, rfl, upd_same, (by walk_at "o2"), (by walk_at "o2"), fun t a2_2 c2_2 h4 h5 => ?_⟩
      refine ⟨_, rfl, rfl, (by walk_at "o2"), fun B h_B h0_B => ?_⟩
      refine ⟨by show 5 ≤ sizeLine; decide, fun p h_p => ?_⟩
      refine ⟨_, rfl, ?_⟩
      refine Ow.ixi5 (SqL.of upd_same) (by walk_at "o2") (fun it h_it => ?_)
      try have e4 := Ow.pow2_lt (a := t) (b := width) (by omega) (by omega)
      exact kont it a2_2 c2_2 (by walk_at "o2") (by walk_at "o2") _ (((Ow.Fm.refl.mut).mut).same (Ow.same_new h_p)) (Ow.at_new h_p upd_same)
    · refine ⟨_, rfl, ?_⟩
      refine ⟨_, _, _, _, rfl, rfl, (SqL.of upd_same), (by first | rfl | decide), ?_⟩
      refine ⟨_, _, rfl, rfl, ?_⟩
      refine ⟨_, rfl, ?_⟩
      refine Ow.ifd (fun h6 => ?_) (fun h6 => ?_)
      · refine ⟨_, rfl, ?_⟩
        refine ⟨_, rfl, ?_⟩
        refine ⟨_, rfl, rfl, (by walk_at "o2"), fun B_2 h_B_2 h0_B_2 => ?_⟩
        refine ⟨_, _, _, _, _, rfl, upd_same, (by walk_at "o2"), (by walk_at "o2"), fun t_2 a2_3 c2_3 h7 h8 => ?_⟩
        try have e4 := Ow.pow2_lt (a := t) (b := width) (by omega) (by omega)
        exact kont t_2 a2_3 c2_3 (by walk_at "o2") (by walk_at "o2") _ ((Ow.Fm.refl.mut).mut) upd_same
      · refine ⟨_, rfl, ?_⟩
        refine ⟨_, _, _, _, _, rfl, upd_same, (by walk_at "o2"), (by walk_at "o2"), fun l_high a2_4 c2_4 h9 h10 => ?_⟩
        refine ⟨_, rfl, ?_⟩
        refine ⟨_, _, rfl, rfl, (by walk_at "o2"), fun s (h_s : s = l_high * 65536) => ?_⟩
        refine ⟨_, rfl, ?_⟩
        refine ⟨_, _, _, _, _, rfl, upd_same, (by walk_at "o2"), (by walk_at "o2"), fun t_3 a2_5 c2_5 h11 h12 => ?_⟩
        refine ⟨_, _, rfl, rfl, (by walk_at "o2"), (by walk_at "o2"), fun o h_o h0_o => ?_⟩
        refine ⟨_, rfl, ?_⟩
        refine ⟨_, rfl, rfl, (by walk_at "o2"), fun B_3 h_B_3 h0_B_3 => ?_⟩
        refine ⟨_, _, rfl, rfl, ?_⟩
        refine ⟨_, _, width.toNat, rfl, rfl, (by walk_at "o2"), fun r h_r h0_r h1_r => ?_⟩
        try have e4 := Ow.pow2_lt (a := t) (b := width) (by omega) (by omega)
        exact kont r a2_5 c2_5 (by walk_at "o2") (by walk_at "o2") _ (((Ow.Fm.refl.mut).mut).mut) upd_same
theorem ok_l_ends (T : Tx K mg) : FnOk P w K mg base CX0 1 T.d_l_ends.f T.d_l_ends.fd ["_law_spec_here"] (sp_l_ends T) := by
  refine T.d_l_ends.F.ok sc_l_ends (fun vs H Q E h => ?_) (fun cdv A outer s H vs Q E hr h => ?_)
  · obtain ⟨spec, kd, rfl, _⟩ := h
    rfl
  · obtain ⟨spec, kd, rfl, c0, c1, kont⟩ := h
    refine ⟨_, (pss_cons (ps_set (i := 1) sc_l_ends.nd rfl (Or.inl rfl) (pe_op Ow.op_shl1 pe_int (pe_op op_sub (pe_ix ix_tup (pv 0) pe_int (fun _ _ => rfl)) pe_int)))
        (pss_cons (ps_if (pt_cmpR op_eq (pe_ix ix_tup (pv 0) pe_int (fun _ _ => rfl)) pe_str (nomark _)) (pss_one (ps_ret (pe_tup (pa_cons pe_int (pa_cons (pe_op op_sub (pe_op Ow.op_mulN pe_int (pv 1)) pe_int) pa_nil))))) pss_nil)
        (pss_one (ps_ret (pe_tup (pa_cons (pe_op op_sub pe_int (pv 1)) (pa_cons (pe_op op_sub (pv 1) pe_int) pa_nil))))))), ?_⟩
    rcases kd with ⟨kd_w⟩ | ⟨kd_w_2⟩ | ⟨kd_w_3, kd_p⟩
    · replace c0 : H spec = some (.tup [.str ("plain"), .int (kd_w), .int (0)]) := c0
      have hk := Ow.krng c1
      have hl := Ow.kle c1
      have hg := Ow.kge c1
      simp only [Ow.KOk] at c1
      simp only [Ow.kw] at hk
      simp only [Ow.kle1] at hl
      simp only [Ow.kge1] at hg
      refine ⟨_, rfl, ?_⟩
      refine ⟨_, _, _, _, rfl, rfl, (SqT.of c0), (by first | rfl | decide), ?_⟩
      refine ⟨_, _, rfl, rfl, ?_⟩
      refine ⟨_, rfl, rfl, (by walk_at "o2"), fun l_half h_l_half h0_l_half => ?_⟩
      refine ⟨_, rfl, ?_⟩
      refine ⟨_, _, _, _, rfl, rfl, (SqT.of c0), (by first | rfl | decide), ?_⟩
      refine ⟨rfl, ?_⟩
      refine ⟨_, rfl, ?_⟩
      refine Ow.ifeqs (fun _ => ?_) (fun h => absurd rfl h)
      refine ⟨_, rfl, ?_⟩
      refine ⟨_, _, rfl, rfl, (by walk_at "o2"), fun m h_m => ?_⟩
      refine ⟨_, _, rfl, rfl, ?_⟩
      refine ⟨by show 2 ≤ sizeLine; decide, fun p h_p => ?_⟩
      exact kont 0 (m - 1) (by walk_at "o2") (by walk_at "o2") _ _ (Ow.same_new h_p) h_p upd_same
    · replace c0 : H spec = some (.tup [.str ("signed"), .int (kd_w_2), .int (0)]) := c0
      have hk := Ow.krng c1
      have hl := Ow.kle c1
      have hg := Ow.kge c1
      simp only [Ow.KOk] at c1
      simp only [Ow.kw] at hk
      simp only [Ow.kle1] at hl
      simp only [Ow.kge1] at hg
      refine ⟨_, rfl, ?_⟩
      refine ⟨_, _, _, _, rfl, rfl, (SqT.of c0), (by first | rfl | decide), ?_⟩
      refine ⟨_, _, rfl, rfl, ?_⟩
      refine ⟨_, rfl, rfl, (by walk_at "o2"), fun l_half_2 h_l_half_2 h0_l_half_2 => ?_⟩
      refine ⟨_, rfl, ?_⟩
      refine ⟨_, _, _, _, rfl, rfl, (SqT.of c0), (by first | rfl | decide), ?_⟩
      refine ⟨rfl, ?_⟩
      refine ⟨_, rfl, ?_⟩
      refine Ow.ifeqs (fun h => absurd h (by decide +kernel)) (fun _ => ?_)
      refine ⟨_, rfl, ?_⟩
      refine ⟨_, _, rfl, rfl, ?_⟩
      refine ⟨_, rfl, ?_⟩
      refine ⟨_, _, rfl, rfl, ?_⟩
      refine ⟨by show 2 ≤ sizeLine; decide, fun p_2 h_p_2 => ?_⟩
      exact kont (0 - l_half_2) (l_half_2 - 1) (by walk_at "o2") (by walk_at "o2") _ _ (Ow.same_new h_p_2) h_p_2 upd_same
    · replace c0 : H spec = some (.tup [.str ("point"), .int (kd_w_3), .int (kd_p)]) := c0
      have hk := Ow.krng c1
      have hl := Ow.kle c1
      have hg := Ow.kge c1
      simp only [Ow.KOk] at c1
      simp only [Ow.kw] at hk
      simp only [Ow.kle1] at hl
      simp only [Ow.kge1] at hg
      refine ⟨_, rfl, ?_⟩
      refine ⟨_, _, _, _, rfl, rfl, (SqT.of c0), (by first | rfl | decide), ?_⟩
      refine ⟨_, _, rfl, rfl, ?_⟩
      refine ⟨_, rfl, rfl, (by walk_at "o2"), fun l_half_3 h_l_half_3 h0_l_half_3 => ?_⟩
      refine ⟨_, rfl, ?_⟩
      refine ⟨_, _, _, _, rfl, rfl, (SqT.of c0), (by first | rfl | decide), ?_⟩
      refine ⟨rfl, ?_⟩
      refine ⟨_, rfl, ?_⟩
      refine Ow.ifeqs (fun h => absurd h (by decide +kernel)) (fun _ => ?_)
      refine ⟨_, rfl, ?_⟩
      refine ⟨_, _, rfl, rfl, ?_⟩
      refine ⟨_, rfl, ?_⟩
      refine ⟨_, _, rfl, rfl, ?_⟩
      refine ⟨by show 2 ≤ sizeLine; decide, fun p_3 h_p_3 => ?_⟩
      exact kont (0 - l_half_3) (l_half_3 - 1) (by walk_at "o2") (by walk_at "o2") _ _ (Ow.same_new h_p_3) h_p_3 upd_same
theorem ok_Plain_word (T : Tx K mg) : FnOk P w K mg base CX0 1 T.d_Plain_word.f T.d_Plain_word.fd ["self"] (sp_Plain_word T) := by
  refine T.d_Plain_word.F.ok sc_Plain_word (fun vs H Q E h => ?_) (fun cdv A outer s H vs Q E hr h => ?_)
  · obtain ⟨self, rfl, _⟩ := h
    rfl
  · obtain ⟨self, rfl, kont⟩ := h
    refine ⟨_, (pss_one (ps_ret pe_str)), ?_⟩
    exact kont
theorem ok_Kind_word (T : Tx K mg) : FnOk P w K mg base CX0 1 T.d_Kind_word.f T.d_Kind_word.fd ["self"] (sp_Kind_word T) := by
  refine T.d_Kind_word.F.ok sc_Kind_word (fun vs H Q E h => ?_) (fun cdv A outer s H vs Q E hr h => ?_)
  · obtain ⟨self, rfl, _⟩ := h
    rfl
  · obtain ⟨self, rfl, kont⟩ := h
    refine ⟨_, (pss_one (ps_ret pe_str)), ?_⟩
    exact kont
theorem ok_Pointed_word (T : Tx K mg) : FnOk P w K mg base CX0 1 T.d_Pointed_word.f T.d_Pointed_word.fd ["self"] (sp_Pointed_word T) := by
  refine T.d_Pointed_word.F.ok sc_Pointed_word (fun vs H Q E h => ?_) (fun cdv A outer s H vs Q E hr h => ?_)
  · obtain ⟨self, rfl, _⟩ := h
    rfl
  · obtain ⟨self, rfl, kont⟩ := h
    refine ⟨_, (pss_one (ps_ret pe_str)), ?_⟩
    exact kont
theorem ok_Plain_least (T : Tx K mg) : FnOk P w K mg base CX0 1 T.d_Plain_least.f T.d_Plain_least.fd ["self"] (sp_Plain_least T) := by
  refine T.d_Plain_least.F.ok sc_Plain_least (fun vs H Q E h => ?_) (fun cdv A outer s H vs Q E hr h => ?_)
  · obtain ⟨self, width, point, dx_self, rfl, _⟩ := h
    rfl
  · obtain ⟨self, width, point, dx_self, rfl, c0, c1, c2, kont⟩ := h
    refine ⟨_, (pss_one (ps_ret pe_int)), ?_⟩
    exact kont
theorem ok_Kind_least (T : Tx K mg) : FnOk P w K mg base CX0 1 T.d_Kind_least.f T.d_Kind_least.fd ["self"] (sp_Kind_least T) := by
  refine T.d_Kind_least.F.ok sc_Kind_least (fun vs H Q E h => ?_) (fun cdv A outer s H vs Q E hr h => ?_)
  · obtain ⟨self, width, point, wy, dx_self, rfl, _⟩ := h
    rfl
  · obtain ⟨self, width, point, wy, dx_self, rfl, c0, c1, c2, kont⟩ := h
    have ph := Ow.pow2_mono (a := (width - 1).toNat) (b := 31) (by omega)
    have ph0 := Ow.p2 (width - 1).toNat
    refine ⟨_, (pss_one (ps_ret (pe_op op_sub pe_int (pe_op Ow.op_shl1 pe_int (pe_op op_sub (pe_fld (pv 0) rfl) pe_int))))), ?_⟩
    refine ⟨_, rfl, ?_⟩
    refine ⟨_, _, _, _, V.int (width), rfl, c0, (Ow.kcl_Kind T wy), (Ow.kna_Kind_width T wy), rfl, ?_⟩
    refine ⟨_, _, rfl, rfl, ?_⟩
    refine ⟨_, rfl, rfl, (by walk_at "o2"), fun B h_B h0_B => ?_⟩
    refine ⟨_, _, rfl, rfl, ?_⟩
    refine Ow.eqi (b := 0 - 2 ^ (width - 1).toNat) (by walk_at "o2") ?_
    exact kont
theorem ok_Plain_greatest (T : Tx K mg) : FnOk P w K mg base CX0 1 T.d_Plain_greatest.f T.d_Plain_greatest.fd ["self"] (sp_Plain_greatest T) := by
  refine T.d_Plain_greatest.F.ok sc_Plain_greatest (fun vs H Q E h => ?_) (fun cdv A outer s H vs Q E hr h => ?_)
  · obtain ⟨self, width, point, dx_self, rfl, _⟩ := h
    rfl
  · obtain ⟨self, width, point, dx_self, rfl, c0, c1, c2, kont⟩ := h
    have ph := Ow.pow2_le32 (w := width) (by omega)
    have ph0 := Ow.p2 width.toNat
    refine ⟨_, (pss_one (ps_ret (pe_op op_sub (pe_op Ow.op_shl1 pe_int (pe_fld (pv 0) rfl)) pe_int))), ?_⟩
    refine ⟨_, rfl, ?_⟩
    refine ⟨_, _, _, _, V.int (width), rfl, c0, T.k_Plain.cl, T.na_Plain_width, rfl, ?_⟩
    refine ⟨_, rfl, rfl, (by walk_at "o2"), fun B h_B h0_B => ?_⟩
    refine ⟨_, _, rfl, rfl, ?_⟩
    refine Ow.eqi (b := 2 ^ width.toNat - 1) (by walk_at "o2") ?_
    exact kont
theorem ok_Kind_greatest (T : Tx K mg) : FnOk P w K mg base CX0 1 T.d_Kind_greatest.f T.d_Kind_greatest.fd ["self"] (sp_Kind_greatest T) := by
  refine T.d_Kind_greatest.F.ok sc_Kind_greatest (fun vs H Q E h => ?_) (fun cdv A outer s H vs Q E hr h => ?_)
  · obtain ⟨self, width, point, wy, dx_self, rfl, _⟩ := h
    rfl
  · obtain ⟨self, width, point, wy, dx_self, rfl, c0, c1, c2, kont⟩ := h
    have ph := Ow.pow2_mono (a := (width - 1).toNat) (b := 31) (by omega)
    have ph0 := Ow.p2 (width - 1).toNat
    refine ⟨_, (pss_one (ps_ret (pe_op op_sub (pe_op Ow.op_shl1 pe_int (pe_op op_sub (pe_fld (pv 0) rfl) pe_int)) pe_int))), ?_⟩
    refine ⟨_, rfl, ?_⟩
    refine ⟨_, _, _, _, V.int (width), rfl, c0, (Ow.kcl_Kind T wy), (Ow.kna_Kind_width T wy), rfl, ?_⟩
    refine ⟨_, _, rfl, rfl, ?_⟩
    refine ⟨_, rfl, rfl, (by walk_at "o2"), fun B h_B h0_B => ?_⟩
    refine ⟨_, _, rfl, rfl, ?_⟩
    refine Ow.eqi (b := 2 ^ (width - 1).toNat - 1) (by walk_at "o2") ?_
    exact kont
theorem ok_l_whole (T : Tx K mg) : FnOk P w K mg base CX0 1 T.d_l_whole.f T.d_l_whole.fd ["_law_found"] (sp_l_whole T) := by
  refine T.d_l_whole.F.ok sc_l_whole (fun vs H Q E h => ?_) (fun cdv A outer s H vs Q E hr h => ?_)
  · obtain ⟨found, rfl, _⟩ := h
    rfl
  · obtain ⟨found, rfl, kont⟩ := h
    refine ⟨_, (pss_one (ps_ret (pe_and (pe_callB call_isi (by rfl) T.z_isinstance (by decide +kernel) (pa_cons (pv 0) (pa_cons (pe_bltn (v := .ty "int") (by rfl) T.z_int (by decide +kernel) rfl) pa_nil))) (pe_one (pe_not (pe_callB call_isi (by rfl) T.z_isinstance (by decide +kernel) (pa_cons (pv 0) (pa_cons (pe_bltn (v := .ty "bool") (by rfl) T.z_bool (by decide +kernel) rfl) pa_nil)))))))), ?_⟩
    refine ⟨_, rfl, ?_⟩
    refine ⟨_, _, _, _, true, rfl, .ty _, .base (.int _), kit_ty (by decide +kernel), ?_⟩
    refine ⟨_, rfl, ?_⟩
    refine iteT ?_
    refine ⟨_, rfl, ?_⟩
    refine ⟨_, _, _, _, false, rfl, .ty _, .base (.int _), kit_ty (by decide +kernel), ?_⟩
    refine ⟨_, rfl, ?_⟩
    exact kont
theorem ok_l_about (T : Tx K mg) : FnOk P w K mg base CX0 2 T.d_l_about.f T.d_l_about.fd ["_law_kind_here", "_law_spec_here"] (sp_l_about T) := by
  refine T.d_l_about.F.ok sc_l_about (fun vs H Q E h => ?_) (fun cdv A outer s H vs Q E hr h => ?_)
  · obtain ⟨kind, spec, kd, dx_kind, rfl, _⟩ := h
    rfl
  · obtain ⟨kind, spec, kd, dx_kind, rfl, c0, c1, c2, kont⟩ := h
    refine ⟨_, (pss_cons (ps_set (i := 2) sc_l_about.nd rfl (Or.inl rfl) (pe_call (Ow.ok_l_ends T) (hr.mono (by decide : 1 ≤ 1)) (by rfl) T.d_l_ends.m T.d_l_ends.F.kp T.d_l_ends.b .nil pass0 (pa_cons (pv 1) pa_nil)))
        (pss_cons (ps_if (PW.pt (pw_or (pt_not (pt_val (pe_callB call_isi (by rfl) T.z_isinstance (by decide +kernel) (pa_cons (pv 0) (pa_cons (pe_glob (v := .ref T.k_Kind.C) rfl T.k_Kind.m rfl) pa_nil))))) (pw_or1 (pt_cmpR op_ne (Ow.pe_methA0 (R := fun C sp => (C = T.k_Plain.C ∧ sp = sp_Plain_word T) ∨ (C = T.k_Signed.C ∧ sp = sp_Kind_word T) ∨ (C = T.k_Pointed.C ∧ sp = sp_Pointed_word T)) (pv 0) (Ow.mal_or (Ow.mal_one ⟨_, _, _, _, T.k_Plain.cl, T.mt_Plain_word, Ow.ok_Plain_word T, hr.mono (by decide : 1 ≤ 1), T.d_Plain_word.b⟩) (Ow.mal_or (Ow.mal_one ⟨_, _, _, _, T.k_Signed.cl, T.mt_Signed_word, Ow.ok_Kind_word T, hr.mono (by decide : 1 ≤ 1), T.d_Kind_word.b⟩) (Ow.mal_one ⟨_, _, _, _, T.k_Pointed.cl, T.mt_Pointed_word, Ow.ok_Pointed_word T, hr.mono (by decide : 1 ≤ 1), T.d_Pointed_word.b⟩))) pass0) (pe_ix ix_tup (pv 1) pe_int (fun _ _ => rfl)) (nomark _))))) (pss_one (ps_ret pe_bl)) pss_nil)
        (pss_cons (ps_set (i := 3) sc_l_about.nd rfl (Or.inl rfl) (pe_lst (pa_cons (pe_tup (pa_cons (pe_fld (pv 0) rfl) (pa_cons (pe_ix ix_tup (pv 1) pe_int (fun _ _ => rfl)) pa_nil))) (pa_cons (pe_tup (pa_cons (pe_fld (pv 0) rfl) (pa_cons (pe_ix ix_tup (pv 1) pe_int (fun _ _ => rfl)) pa_nil))) (pa_cons (pe_tup (pa_cons (Ow.pe_methA0 (R := fun C sp => (C = T.k_Plain.C ∧ sp = sp_Plain_least T) ∨ (C = T.k_Signed.C ∧ sp = sp_Kind_least T) ∨ (C = T.k_Pointed.C ∧ sp = sp_Kind_least T)) (pv 0) (Ow.mal_or (Ow.mal_one ⟨_, _, _, _, T.k_Plain.cl, T.mt_Plain_least, Ow.ok_Plain_least T, hr.mono (by decide : 1 ≤ 1), T.d_Plain_least.b⟩) (Ow.mal_or (Ow.mal_one ⟨_, _, _, _, T.k_Signed.cl, T.mt_Signed_least, Ow.ok_Kind_least T, hr.mono (by decide : 1 ≤ 1), T.d_Kind_least.b⟩) (Ow.mal_one ⟨_, _, _, _, T.k_Pointed.cl, T.mt_Pointed_least, Ow.ok_Kind_least T, hr.mono (by decide : 1 ≤ 1), T.d_Kind_least.b⟩))) pass0) (pa_cons (pe_ix ix_tup (pv 2) pe_int (fun _ _ => rfl)) pa_nil))) (pa_cons (pe_tup (pa_cons (Ow.pe_methA0 (R := fun C sp => (C = T.k_Plain.C ∧ sp = sp_Plain_greatest T) ∨ (C = T.k_Signed.C ∧ sp = sp_Kind_greatest T) ∨ (C = T.k_Pointed.C ∧ sp = sp_Kind_greatest T)) (pv 0) (Ow.mal_or (Ow.mal_one ⟨_, _, _, _, T.k_Plain.cl, T.mt_Plain_greatest, Ow.ok_Plain_greatest T, hr.mono (by decide : 1 ≤ 1), T.d_Plain_greatest.b⟩) (Ow.mal_or (Ow.mal_one ⟨_, _, _, _, T.k_Signed.cl, T.mt_Signed_greatest, Ow.ok_Kind_greatest T, hr.mono (by decide : 1 ≤ 1), T.d_Kind_greatest.b⟩) (Ow.mal_one ⟨_, _, _, _, T.k_Pointed.cl, T.mt_Pointed_greatest, Ow.ok_Kind_greatest T, hr.mono (by decide : 1 ≤ 1), T.d_Kind_greatest.b⟩))) pass0) (pa_cons (pe_ix ix_tup (pv 2) pe_int (fun _ _ => rfl)) pa_nil))) pa_nil))))))
        (pss_cons (ps_for PassesOwn.never rfl (pi_list (pv 3)) (pg_tup rfl (pgs_cons (pg_name (i := 4) sc_l_about.nd rfl (Or.inl rfl)) (pgs_cons (pg_name (i := 5) sc_l_about.nd rfl (Or.inl rfl)) pgs_nil))) (pss_one (ps_if (PW.pt (pw_or (pt_not (pt_val (pe_call (Ow.ok_l_whole T) (hr.mono (by decide : 1 ≤ 1)) (by rfl) T.d_l_whole.m T.d_l_whole.F.kp T.d_l_whole.b .nil pass0 (pa_cons (pv 4) pa_nil)))) (pw_or1 (pt_cmpR op_ne (pv 4) (pv 5) (nomark _))))) (pss_one (ps_ret pe_bl)) pss_nil)))
        (pss_cons (ps_set (i := 6) sc_l_about.nd rfl (Or.inl rfl) (pe_lst (pa_cons (pe_callB call_isi (by rfl) T.z_isinstance (by decide +kernel) (pa_cons (pv 0) (pa_cons (pe_glob (v := .ref T.k_Plain.C) rfl T.k_Plain.m rfl) pa_nil))) (pa_cons (pe_callB call_isi (by rfl) T.z_isinstance (by decide +kernel) (pa_cons (pv 0) (pa_cons (pe_glob (v := .ref T.k_Signed.C) rfl T.k_Signed.m rfl) pa_nil))) (pa_cons (pe_callB call_isi (by rfl) T.z_isinstance (by decide +kernel) (pa_cons (pv 0) (pa_cons (pe_glob (v := .ref T.k_Pointed.C) rfl T.k_Pointed.m rfl) pa_nil))) pa_nil)))))
        (pss_one (ps_ret (pe_cmpR (op_eqD hr.units) (pv 6) (pe_lst (pa_cons (pe_cmpR op_eq (pe_ix ix_tup (pv 1) pe_int (fun _ _ => rfl)) pe_str (nomark _)) (pa_cons (pe_cmpR op_eq (pe_ix ix_tup (pv 1) pe_int (fun _ _ => rfl)) pe_str (nomark _)) (pa_cons (pe_cmpR op_eq (pe_ix ix_tup (pv 1) pe_int (fun _ _ => rfl)) pe_str (nomark _)) pa_nil)))) (nomark _))))))))), ?_⟩
    rcases kd with ⟨kd_w⟩ | ⟨kd_w_2⟩ | ⟨kd_w_3, kd_p⟩
    · replace c0 : H kind = some (.ins T.k_Plain.C dx_kind [(("width" : Str), V.int (kd_w)), (("point" : Str), V.int (0))]) := c0
      replace c1 : H spec = some (.tup [.str ("plain"), .int (kd_w), .int (0)]) := c1
      have hk := Ow.krng c2
      have hl := Ow.kle c2
      have hg := Ow.kge c2
      simp only [Ow.KOk] at c2
      simp only [Ow.kw] at hk
      simp only [Ow.kle1] at hl
      simp only [Ow.kge1] at hg
      refine ⟨_, rfl, ?_⟩
      refine ⟨_, ((Ow.Tf_Kind.plain kd_w)), rfl, c1, (by walk_at "o2"), fun lo hi h1 h2 p Hn h3 h4 h5 => ?_⟩
      refine ⟨_, rfl, ?_⟩
      refine ⟨_, _, _, _, true, rfl, .own _, (Ow.tyIns T.k_Plain.cl T.ic_Plain (h3 _ _ c0)), T.kic_Plain_Kind, ?_⟩
      refine ⟨_, rfl, ?_⟩
      refine iteF ?_
      refine ⟨_, rfl, ?_⟩
      refine ⟨_, _, _, _, _, rfl, .inl ⟨rfl, rfl⟩, (h3 _ _ c0), rfl, ?_⟩
      refine ⟨_, rfl, ?_⟩
      refine ⟨_, rfl, ?_⟩
      refine ⟨_, _, _, _, rfl, rfl, (SqT.of (h3 _ _ c1)), (by first | rfl | decide), ?_⟩
      refine ⟨rfl, ?_⟩
      refine ⟨_, rfl, ?_⟩
      refine Ow.ifnes (fun h => absurd rfl h) (fun _ => ?_)
      refine ⟨_, rfl, ?_⟩
      refine ⟨_, _, _, _, V.int (kd_w), rfl, (h3 _ _ c0), T.k_Plain.cl, T.na_Plain_width, rfl, ?_⟩
      refine ⟨_, rfl, ?_⟩
      refine ⟨_, _, _, _, rfl, rfl, (SqT.of (h3 _ _ c1)), (by first | rfl | decide), ?_⟩
      refine ⟨by show 2 ≤ sizeLine; decide, fun p_2 h_p_2 => ?_⟩
      refine ⟨_, rfl, ?_⟩
      refine ⟨_, _, _, _, V.int (0), rfl, (Ow.at_new h_p_2 (h3 _ _ c0)), T.k_Plain.cl, T.na_Plain_point, rfl, ?_⟩
      refine ⟨_, rfl, ?_⟩
      refine ⟨_, _, _, _, rfl, rfl, (SqT.of (Ow.at_new h_p_2 (h3 _ _ c1))), (by first | rfl | decide), ?_⟩
      refine ⟨by show 2 ≤ sizeLine; decide, fun p_3 h_p_3 => ?_⟩
      refine ⟨_, rfl, ?_⟩
      refine ⟨_, _, _, _, _, rfl, .inl ⟨rfl, rfl⟩, (Ow.at_new h_p_3 (Ow.at_new h_p_2 (h3 _ _ c0))), rfl, ?_⟩
      refine ⟨_, _, _, _, rfl, (Ow.at_new h_p_3 (Ow.at_new h_p_2 (h3 _ _ c0))), (by walk_at "o2"), (by walk_at "o2"), ?_⟩
      refine ⟨_, rfl, ?_⟩
      refine ⟨_, _, _, _, rfl, rfl, (SqT.of (Ow.at_new h_p_3 (Ow.at_new h_p_2 h5))), (by first | rfl | decide), ?_⟩
      refine ⟨by show 2 ≤ sizeLine; decide, fun p_4 h_p_4 => ?_⟩
      refine ⟨_, rfl, ?_⟩
      refine ⟨_, _, _, _, _, rfl, .inl ⟨rfl, rfl⟩, (Ow.at_new h_p_4 (Ow.at_new h_p_3 (Ow.at_new h_p_2 (h3 _ _ c0)))), rfl, ?_⟩
      refine ⟨_, _, _, _, rfl, (Ow.at_new h_p_4 (Ow.at_new h_p_3 (Ow.at_new h_p_2 (h3 _ _ c0)))), (by walk_at "o2"), (by walk_at "o2"), ?_⟩
      refine ⟨_, rfl, ?_⟩
      refine ⟨_, _, _, _, rfl, rfl, (SqT.of (Ow.at_new h_p_4 (Ow.at_new h_p_3 (Ow.at_new h_p_2 h5)))), (by first | rfl | decide), ?_⟩
      refine ⟨by show 2 ≤ sizeLine; decide, fun p_5 h_p_5 => ?_⟩
      refine ⟨by show 4 ≤ sizeLine; decide, fun p_6 h_p_6 => ?_⟩
      refine ⟨_, rfl, ?_⟩
      refine ⟨_, rfl, ⟨_, (SqL.of upd_same)⟩, ?_⟩
      refine Ow.un_start (K := K) (a := p_6) (xs := [.ref p_2, .ref p_3, .ref p_4, .ref p_5]) ?_
      refine ⟨(SqL.of upd_same), ?_⟩
      refine ⟨_, _, rfl, (SqT.of (Ow.at_new h_p_6 (Ow.at_new h_p_5 (Ow.at_new h_p_4 (Ow.at_new h_p_3 upd_same))))), rfl, ?_⟩
      refine ⟨_, _, rfl, ?_⟩
      refine ⟨_, _, rfl, ?_⟩
      refine ⟨rfl, ?_⟩
      refine ⟨_, rfl, ?_⟩
      refine ⟨_, rfl, ?_⟩
      refine ⟨_, rfl, ?_⟩
      refine iteF ?_
      refine ⟨_, rfl, ?_⟩
      refine ⟨_, rfl, ?_⟩
      refine ⟨rfl, ?_⟩
      refine ⟨_, rfl, ?_⟩
      refine Ow.ifnei (fun h6 => ?_) (fun h6 => ?_)
      · exact ((by walk_at "o2") : False).elim
      · refine ⟨(SqL.of upd_same), ?_⟩
        refine ⟨_, _, rfl, (SqT.of (Ow.at_new h_p_6 (Ow.at_new h_p_5 (Ow.at_new h_p_4 upd_same)))), rfl, ?_⟩
        refine ⟨_, _, rfl, ?_⟩
        refine ⟨_, _, rfl, ?_⟩
        refine ⟨rfl, ?_⟩
        refine ⟨_, rfl, ?_⟩
        refine ⟨_, rfl, ?_⟩
        refine ⟨_, rfl, ?_⟩
        refine iteF ?_
        refine ⟨_, rfl, ?_⟩
        refine ⟨_, rfl, ?_⟩
        refine ⟨rfl, ?_⟩
        refine ⟨_, rfl, ?_⟩
        refine Ow.ifnei (fun h => absurd rfl h) (fun _ => ?_)
        refine ⟨(SqL.of upd_same), ?_⟩
        refine ⟨_, _, rfl, (SqT.of (Ow.at_new h_p_6 (Ow.at_new h_p_5 upd_same))), rfl, ?_⟩
        refine ⟨_, _, rfl, ?_⟩
        refine ⟨_, _, rfl, ?_⟩
        refine ⟨rfl, ?_⟩
        refine ⟨_, rfl, ?_⟩
        refine ⟨_, rfl, ?_⟩
        refine ⟨_, rfl, ?_⟩
        refine iteF ?_
        refine ⟨_, rfl, ?_⟩
        refine ⟨_, rfl, ?_⟩
        refine ⟨rfl, ?_⟩
        refine ⟨_, rfl, ?_⟩
        refine Ow.ifnei (fun h7 => ?_) (fun h7 => ?_)
        · exact ((by walk_at "o2") : False).elim
        · refine ⟨(SqL.of upd_same), ?_⟩
          refine ⟨_, _, rfl, (SqT.of (Ow.at_new h_p_6 upd_same)), rfl, ?_⟩
          refine ⟨_, _, rfl, ?_⟩
          refine ⟨_, _, rfl, ?_⟩
          refine ⟨rfl, ?_⟩
          refine ⟨_, rfl, ?_⟩
          refine ⟨_, rfl, ?_⟩
          refine ⟨_, rfl, ?_⟩
          refine iteF ?_
          refine ⟨_, rfl, ?_⟩
          refine ⟨_, rfl, ?_⟩
          refine ⟨rfl, ?_⟩
          refine ⟨_, rfl, ?_⟩
          refine Ow.ifnei (fun h8 => ?_) (fun h8 => ?_)
          · exact ((by walk_at "o2") : False).elim
          · refine ⟨(SqL.of upd_same), ?_⟩
            refine ⟨_, rfl, ?_⟩
            refine ⟨_, _, _, _, true, rfl, .own _, (Ow.tyIns T.k_Plain.cl T.ic_Plain (Ow.at_new h_p_6 (Ow.at_new h_p_5 (Ow.at_new h_p_4 (Ow.at_new h_p_3 (Ow.at_new h_p_2 (h3 _ _ c0))))))), T.kic_Plain_Plain, ?_⟩
            refine ⟨_, rfl, ?_⟩
            refine ⟨_, _, _, _, false, rfl, .own _, (Ow.tyIns T.k_Plain.cl T.ic_Plain (Ow.at_new h_p_6 (Ow.at_new h_p_5 (Ow.at_new h_p_4 (Ow.at_new h_p_3 (Ow.at_new h_p_2 (h3 _ _ c0))))))), T.kic_Plain_Signed, ?_⟩
            refine ⟨_, rfl, ?_⟩
            refine ⟨_, _, _, _, false, rfl, .own _, (Ow.tyIns T.k_Plain.cl T.ic_Plain (Ow.at_new h_p_6 (Ow.at_new h_p_5 (Ow.at_new h_p_4 (Ow.at_new h_p_3 (Ow.at_new h_p_2 (h3 _ _ c0))))))), T.kic_Plain_Pointed, ?_⟩
            refine ⟨by show 3 ≤ sizeLine; decide, fun p_7 h_p_7 => ?_⟩
            refine ⟨_, rfl, ?_⟩
            refine ⟨_, rfl, ?_⟩
            refine ⟨_, _, _, _, rfl, rfl, (SqT.of (Ow.at_new h_p_7 (Ow.at_new h_p_6 (Ow.at_new h_p_5 (Ow.at_new h_p_4 (Ow.at_new h_p_3 (Ow.at_new h_p_2 (h3 _ _ c1)))))))), (by first | rfl | decide), ?_⟩
            refine ⟨rfl, ?_⟩
            refine ⟨_, rfl, ?_⟩
            refine ⟨_, _, _, _, rfl, rfl, (SqT.of (Ow.at_new h_p_7 (Ow.at_new h_p_6 (Ow.at_new h_p_5 (Ow.at_new h_p_4 (Ow.at_new h_p_3 (Ow.at_new h_p_2 (h3 _ _ c1)))))))), (by first | rfl | decide), ?_⟩
            refine ⟨rfl, ?_⟩
            refine ⟨_, rfl, ?_⟩
            refine ⟨_, _, _, _, rfl, rfl, (SqT.of (Ow.at_new h_p_7 (Ow.at_new h_p_6 (Ow.at_new h_p_5 (Ow.at_new h_p_4 (Ow.at_new h_p_3 (Ow.at_new h_p_2 (h3 _ _ c1)))))))), (by first | rfl | decide), ?_⟩
            refine ⟨rfl, ?_⟩
            refine ⟨by show 3 ≤ sizeLine; decide, fun p_8 h_p_8 => ?_⟩
            refine ⟨(.list [PyData.bool true, PyData.bool false, PyData.bool false]), (.list [PyData.bool (decide ((V.str ("plain")) = V.str ("plain"))), PyData.bool (decide ((V.str ("plain")) = V.str ("signed"))), PyData.bool (decide ((V.str ("plain")) = V.str ("point")))]), (.lst (SqL.of (Ow.at_new h_p_8 upd_same)) (.cons (.bl _) (.cons (.bl _) (.cons (.bl _) .nil)))), (.lst (SqL.of upd_same) (.cons (.bl _) (.cons (.bl _) (.cons (.bl _) .nil)))), (by first | rfl | exact Ow.shp (by first | rfl | (simp only [PyData.canLay0, PyData.canLayAll0, Bool.and_true, Bool.true_and]; first | decide +kernel | assumption | (simp_all; done))) (by simp [PyData.depth, PyData.depthAll])), (by first | rfl | exact Ow.shp (by first | rfl | (simp only [PyData.canLay0, PyData.canLayAll0, Bool.and_true, Bool.true_and]; first | decide +kernel | assumption | (simp_all; done))) (by simp [PyData.depth, PyData.depthAll])), ?_⟩
            rw [show PyData.eqv ((.list [PyData.bool true, PyData.bool false, PyData.bool false])) ((.list [PyData.bool (decide ((V.str ("plain")) = V.str ("plain"))), PyData.bool (decide ((V.str ("plain")) = V.str ("signed"))), PyData.bool (decide ((V.str ("plain")) = V.str ("point")))])) = true by first | (simp [PyData.eqv, PyData.eqvAll]; done) | decide +kernel]
            exact kont _ (((((((h3.trans (Ow.same_new h_p_2)).trans (Ow.same_new h_p_3)).trans (Ow.same_new h_p_4)).trans (Ow.same_new h_p_5)).trans (Ow.same_new h_p_6)).trans (Ow.same_new h_p_7)).trans (Ow.same_new h_p_8))
    · replace c0 : H kind = some (.ins T.k_Signed.C dx_kind [(("width" : Str), V.int (kd_w_2)), (("point" : Str), V.int (0))]) := c0
      replace c1 : H spec = some (.tup [.str ("signed"), .int (kd_w_2), .int (0)]) := c1
      have hk := Ow.krng c2
      have hl := Ow.kle c2
      have hg := Ow.kge c2
      simp only [Ow.KOk] at c2
      simp only [Ow.kw] at hk
      simp only [Ow.kle1] at hl
      simp only [Ow.kge1] at hg
      refine ⟨_, rfl, ?_⟩
      refine ⟨_, ((Ow.Tf_Kind.signed kd_w_2)), rfl, c1, (by walk_at "o2"), fun lo_2 hi_2 h9 h10 p_9 Hn_2 h11 h12 h13 => ?_⟩
      refine ⟨_, rfl, ?_⟩
      refine ⟨_, _, _, _, true, rfl, .own _, (Ow.tyIns T.k_Signed.cl T.ic_Signed (h11 _ _ c0)), T.kic_Signed_Kind, ?_⟩
      refine ⟨_, rfl, ?_⟩
      refine iteF ?_
      refine ⟨_, rfl, ?_⟩
      refine ⟨_, _, _, _, _, rfl, .inr (.inl ⟨rfl, rfl⟩), (h11 _ _ c0), rfl, ?_⟩
      refine ⟨_, rfl, ?_⟩
      refine ⟨_, rfl, ?_⟩
      refine ⟨_, _, _, _, rfl, rfl, (SqT.of (h11 _ _ c1)), (by first | rfl | decide), ?_⟩
      refine ⟨rfl, ?_⟩
      refine ⟨_, rfl, ?_⟩
      refine Ow.ifnes (fun h => absurd rfl h) (fun _ => ?_)
      refine ⟨_, rfl, ?_⟩
      refine ⟨_, _, _, _, V.int (kd_w_2), rfl, (h11 _ _ c0), T.k_Signed.cl, T.na_Signed_width, rfl, ?_⟩
      refine ⟨_, rfl, ?_⟩
      refine ⟨_, _, _, _, rfl, rfl, (SqT.of (h11 _ _ c1)), (by first | rfl | decide), ?_⟩
      refine ⟨by show 2 ≤ sizeLine; decide, fun p_10 h_p_10 => ?_⟩
      refine ⟨_, rfl, ?_⟩
      refine ⟨_, _, _, _, V.int (0), rfl, (Ow.at_new h_p_10 (h11 _ _ c0)), T.k_Signed.cl, T.na_Signed_point, rfl, ?_⟩
      refine ⟨_, rfl, ?_⟩
      refine ⟨_, _, _, _, rfl, rfl, (SqT.of (Ow.at_new h_p_10 (h11 _ _ c1))), (by first | rfl | decide), ?_⟩
      refine ⟨by show 2 ≤ sizeLine; decide, fun p_11 h_p_11 => ?_⟩
      refine ⟨_, rfl, ?_⟩
      refine ⟨_, _, _, _, _, rfl, .inr (.inl ⟨rfl, rfl⟩), (Ow.at_new h_p_11 (Ow.at_new h_p_10 (h11 _ _ c0))), rfl, ?_⟩
      refine ⟨_, _, _, Ow.F_Kind.Signed, _, rfl, (Ow.at_new h_p_11 (Ow.at_new h_p_10 (h11 _ _ c0))), (by walk_at "o2"), (by walk_at "o2"), ?_⟩
      refine ⟨_, rfl, ?_⟩
      refine ⟨_, _, _, _, rfl, rfl, (SqT.of (Ow.at_new h_p_11 (Ow.at_new h_p_10 h13))), (by first | rfl | decide), ?_⟩
      refine ⟨by show 2 ≤ sizeLine; decide, fun p_12 h_p_12 => ?_⟩
      refine ⟨_, rfl, ?_⟩
      refine ⟨_, _, _, _, _, rfl, .inr (.inl ⟨rfl, rfl⟩), (Ow.at_new h_p_12 (Ow.at_new h_p_11 (Ow.at_new h_p_10 (h11 _ _ c0)))), rfl, ?_⟩
      refine ⟨_, _, _, Ow.F_Kind.Signed, _, rfl, (Ow.at_new h_p_12 (Ow.at_new h_p_11 (Ow.at_new h_p_10 (h11 _ _ c0)))), (by walk_at "o2"), (by walk_at "o2"), ?_⟩
      refine ⟨_, rfl, ?_⟩
      refine ⟨_, _, _, _, rfl, rfl, (SqT.of (Ow.at_new h_p_12 (Ow.at_new h_p_11 (Ow.at_new h_p_10 h13)))), (by first | rfl | decide), ?_⟩
      refine ⟨by show 2 ≤ sizeLine; decide, fun p_13 h_p_13 => ?_⟩
      refine ⟨by show 4 ≤ sizeLine; decide, fun p_14 h_p_14 => ?_⟩
      refine ⟨_, rfl, ?_⟩
      refine ⟨_, rfl, ⟨_, (SqL.of upd_same)⟩, ?_⟩
      refine Ow.un_start (K := K) (a := p_14) (xs := [.ref p_10, .ref p_11, .ref p_12, .ref p_13]) ?_
      refine ⟨(SqL.of upd_same), ?_⟩
      refine ⟨_, _, rfl, (SqT.of (Ow.at_new h_p_14 (Ow.at_new h_p_13 (Ow.at_new h_p_12 (Ow.at_new h_p_11 upd_same))))), rfl, ?_⟩
      refine ⟨_, _, rfl, ?_⟩
      refine ⟨_, _, rfl, ?_⟩
      refine ⟨rfl, ?_⟩
      refine ⟨_, rfl, ?_⟩
      refine ⟨_, rfl, ?_⟩
      refine ⟨_, rfl, ?_⟩
      refine iteF ?_
      refine ⟨_, rfl, ?_⟩
      refine ⟨_, rfl, ?_⟩
      refine ⟨rfl, ?_⟩
      refine ⟨_, rfl, ?_⟩
      refine Ow.ifnei (fun h14 => ?_) (fun h14 => ?_)
      · exact ((by walk_at "o2") : False).elim
      · refine ⟨(SqL.of upd_same), ?_⟩
        refine ⟨_, _, rfl, (SqT.of (Ow.at_new h_p_14 (Ow.at_new h_p_13 (Ow.at_new h_p_12 upd_same)))), rfl, ?_⟩
        refine ⟨_, _, rfl, ?_⟩
        refine ⟨_, _, rfl, ?_⟩
        refine ⟨rfl, ?_⟩
        refine ⟨_, rfl, ?_⟩
        refine ⟨_, rfl, ?_⟩
        refine ⟨_, rfl, ?_⟩
        refine iteF ?_
        refine ⟨_, rfl, ?_⟩
        refine ⟨_, rfl, ?_⟩
        refine ⟨rfl, ?_⟩
        refine ⟨_, rfl, ?_⟩
        refine Ow.ifnei (fun h => absurd rfl h) (fun _ => ?_)
        refine ⟨(SqL.of upd_same), ?_⟩
        refine ⟨_, _, rfl, (SqT.of (Ow.at_new h_p_14 (Ow.at_new h_p_13 upd_same))), rfl, ?_⟩
        refine ⟨_, _, rfl, ?_⟩
        refine ⟨_, _, rfl, ?_⟩
        refine ⟨rfl, ?_⟩
        refine ⟨_, rfl, ?_⟩
        refine ⟨_, rfl, ?_⟩
        refine ⟨_, rfl, ?_⟩
        refine iteF ?_
        refine ⟨_, rfl, ?_⟩
        refine ⟨_, rfl, ?_⟩
        refine ⟨rfl, ?_⟩
        refine ⟨_, rfl, ?_⟩
        refine Ow.ifnei (fun h15 => ?_) (fun h15 => ?_)
        · exact ((by walk_at "o2") : False).elim
        · refine ⟨(SqL.of upd_same), ?_⟩
          refine ⟨_, _, rfl, (SqT.of (Ow.at_new h_p_14 upd_same)), rfl, ?_⟩
          refine ⟨_, _, rfl, ?_⟩
          refine ⟨_, _, rfl, ?_⟩
          refine ⟨rfl, ?_⟩
          refine ⟨_, rfl, ?_⟩
          refine ⟨_, rfl, ?_⟩
          refine ⟨_, rfl, ?_⟩
          refine iteF ?_
          refine ⟨_, rfl, ?_⟩
          refine ⟨_, rfl, ?_⟩
          refine ⟨rfl, ?_⟩
          refine ⟨_, rfl, ?_⟩
          refine Ow.ifnei (fun h16 => ?_) (fun h16 => ?_)
          · exact ((by walk_at "o2") : False).elim
          · refine ⟨(SqL.of upd_same), ?_⟩
            refine ⟨_, rfl, ?_⟩
            refine ⟨_, _, _, _, false, rfl, .own _, (Ow.tyIns T.k_Signed.cl T.ic_Signed (Ow.at_new h_p_14 (Ow.at_new h_p_13 (Ow.at_new h_p_12 (Ow.at_new h_p_11 (Ow.at_new h_p_10 (h11 _ _ c0))))))), T.kic_Signed_Plain, ?_⟩
            refine ⟨_, rfl, ?_⟩
            refine ⟨_, _, _, _, true, rfl, .own _, (Ow.tyIns T.k_Signed.cl T.ic_Signed (Ow.at_new h_p_14 (Ow.at_new h_p_13 (Ow.at_new h_p_12 (Ow.at_new h_p_11 (Ow.at_new h_p_10 (h11 _ _ c0))))))), T.kic_Signed_Signed, ?_⟩
            refine ⟨_, rfl, ?_⟩
            refine ⟨_, _, _, _, false, rfl, .own _, (Ow.tyIns T.k_Signed.cl T.ic_Signed (Ow.at_new h_p_14 (Ow.at_new h_p_13 (Ow.at_new h_p_12 (Ow.at_new h_p_11 (Ow.at_new h_p_10 (h11 _ _ c0))))))), T.kic_Signed_Pointed, ?_⟩
            refine ⟨by show 3 ≤ sizeLine; decide, fun p_15 h_p_15 => ?_⟩
            refine ⟨_, rfl, ?_⟩
            refine ⟨_, rfl, ?_⟩
            refine ⟨_, _, _, _, rfl, rfl, (SqT.of (Ow.at_new h_p_15 (Ow.at_new h_p_14 (Ow.at_new h_p_13 (Ow.at_new h_p_12 (Ow.at_new h_p_11 (Ow.at_new h_p_10 (h11 _ _ c1)))))))), (by first | rfl | decide), ?_⟩
            refine ⟨rfl, ?_⟩
            refine ⟨_, rfl, ?_⟩
            refine ⟨_, _, _, _, rfl, rfl, (SqT.of (Ow.at_new h_p_15 (Ow.at_new h_p_14 (Ow.at_new h_p_13 (Ow.at_new h_p_12 (Ow.at_new h_p_11 (Ow.at_new h_p_10 (h11 _ _ c1)))))))), (by first | rfl | decide), ?_⟩
            refine ⟨rfl, ?_⟩
            refine ⟨_, rfl, ?_⟩
            refine ⟨_, _, _, _, rfl, rfl, (SqT.of (Ow.at_new h_p_15 (Ow.at_new h_p_14 (Ow.at_new h_p_13 (Ow.at_new h_p_12 (Ow.at_new h_p_11 (Ow.at_new h_p_10 (h11 _ _ c1)))))))), (by first | rfl | decide), ?_⟩
            refine ⟨rfl, ?_⟩
            refine ⟨by show 3 ≤ sizeLine; decide, fun p_16 h_p_16 => ?_⟩
            refine ⟨(.list [PyData.bool false, PyData.bool true, PyData.bool false]), (.list [PyData.bool (decide ((V.str ("signed")) = V.str ("plain"))), PyData.bool (decide ((V.str ("signed")) = V.str ("signed"))), PyData.bool (decide ((V.str ("signed")) = V.str ("point")))]), (.lst (SqL.of (Ow.at_new h_p_16 upd_same)) (.cons (.bl _) (.cons (.bl _) (.cons (.bl _) .nil)))), (.lst (SqL.of upd_same) (.cons (.bl _) (.cons (.bl _) (.cons (.bl _) .nil)))), (by first | rfl | exact Ow.shp (by first | rfl | (simp only [PyData.canLay0, PyData.canLayAll0, Bool.and_true, Bool.true_and]; first | decide +kernel | assumption | (simp_all; done))) (by simp [PyData.depth, PyData.depthAll])), (by first | rfl | exact Ow.shp (by first | rfl | (simp only [PyData.canLay0, PyData.canLayAll0, Bool.and_true, Bool.true_and]; first | decide +kernel | assumption | (simp_all; done))) (by simp [PyData.depth, PyData.depthAll])), ?_⟩
            rw [show PyData.eqv ((.list [PyData.bool false, PyData.bool true, PyData.bool false])) ((.list [PyData.bool (decide ((V.str ("signed")) = V.str ("plain"))), PyData.bool (decide ((V.str ("signed")) = V.str ("signed"))), PyData.bool (decide ((V.str ("signed")) = V.str ("point")))])) = true by first | (simp [PyData.eqv, PyData.eqvAll]; done) | decide +kernel]
            exact kont _ (((((((h11.trans (Ow.same_new h_p_10)).trans (Ow.same_new h_p_11)).trans (Ow.same_new h_p_12)).trans (Ow.same_new h_p_13)).trans (Ow.same_new h_p_14)).trans (Ow.same_new h_p_15)).trans (Ow.same_new h_p_16))
    · replace c0 : H kind = some (.ins T.k_Pointed.C dx_kind [(("width" : Str), V.int (kd_w_3)), (("point" : Str), V.int (kd_p))]) := c0
      replace c1 : H spec = some (.tup [.str ("point"), .int (kd_w_3), .int (kd_p)]) := c1
      have hk := Ow.krng c2
      have hl := Ow.kle c2
      have hg := Ow.kge c2
      simp only [Ow.KOk] at c2
      simp only [Ow.kw] at hk
      simp only [Ow.kle1] at hl
      simp only [Ow.kge1] at hg
      refine ⟨_, rfl, ?_⟩
      refine ⟨_, ((Ow.Tf_Kind.point kd_w_3 kd_p)), rfl, c1, (by walk_at "o2"), fun lo_3 hi_3 h17 h18 p_17 Hn_3 h19 h20 h21 => ?_⟩
      refine ⟨_, rfl, ?_⟩
      refine ⟨_, _, _, _, true, rfl, .own _, (Ow.tyIns T.k_Pointed.cl T.ic_Pointed (h19 _ _ c0)), T.kic_Pointed_Kind, ?_⟩
      refine ⟨_, rfl, ?_⟩
      refine iteF ?_
      refine ⟨_, rfl, ?_⟩
      refine ⟨_, _, _, _, _, rfl, .inr (.inr (⟨rfl, rfl⟩)), (h19 _ _ c0), rfl, ?_⟩
      refine ⟨_, rfl, ?_⟩
      refine ⟨_, rfl, ?_⟩
      refine ⟨_, _, _, _, rfl, rfl, (SqT.of (h19 _ _ c1)), (by first | rfl | decide), ?_⟩
      refine ⟨rfl, ?_⟩
      refine ⟨_, rfl, ?_⟩
      refine Ow.ifnes (fun h => absurd rfl h) (fun _ => ?_)
      refine ⟨_, rfl, ?_⟩
      refine ⟨_, _, _, _, V.int (kd_w_3), rfl, (h19 _ _ c0), T.k_Pointed.cl, T.na_Pointed_width, rfl, ?_⟩
      refine ⟨_, rfl, ?_⟩
      refine ⟨_, _, _, _, rfl, rfl, (SqT.of (h19 _ _ c1)), (by first | rfl | decide), ?_⟩
      refine ⟨by show 2 ≤ sizeLine; decide, fun p_18 h_p_18 => ?_⟩
      refine ⟨_, rfl, ?_⟩
      refine ⟨_, _, _, _, V.int (kd_p), rfl, (Ow.at_new h_p_18 (h19 _ _ c0)), T.k_Pointed.cl, T.na_Pointed_point, rfl, ?_⟩
      refine ⟨_, rfl, ?_⟩
      refine ⟨_, _, _, _, rfl, rfl, (SqT.of (Ow.at_new h_p_18 (h19 _ _ c1))), (by first | rfl | decide), ?_⟩
      refine ⟨by show 2 ≤ sizeLine; decide, fun p_19 h_p_19 => ?_⟩
      refine ⟨_, rfl, ?_⟩
      refine ⟨_, _, _, _, _, rfl, .inr (.inr (⟨rfl, rfl⟩)), (Ow.at_new h_p_19 (Ow.at_new h_p_18 (h19 _ _ c0))), rfl, ?_⟩
      refine ⟨_, _, _, Ow.F_Kind.Pointed, _, rfl, (Ow.at_new h_p_19 (Ow.at_new h_p_18 (h19 _ _ c0))), (by walk_at "o2"), (by walk_at "o2"), ?_⟩
      refine ⟨_, rfl, ?_⟩
      refine ⟨_, _, _, _, rfl, rfl, (SqT.of (Ow.at_new h_p_19 (Ow.at_new h_p_18 h21))), (by first | rfl | decide), ?_⟩
      refine ⟨by show 2 ≤ sizeLine; decide, fun p_20 h_p_20 => ?_⟩
      refine ⟨_, rfl, ?_⟩
      refine ⟨_, _, _, _, _, rfl, .inr (.inr (⟨rfl, rfl⟩)), (Ow.at_new h_p_20 (Ow.at_new h_p_19 (Ow.at_new h_p_18 (h19 _ _ c0)))), rfl, ?_⟩
      refine ⟨_, _, _, Ow.F_Kind.Pointed, _, rfl, (Ow.at_new h_p_20 (Ow.at_new h_p_19 (Ow.at_new h_p_18 (h19 _ _ c0)))), (by walk_at "o2"), (by walk_at "o2"), ?_⟩
      refine ⟨_, rfl, ?_⟩
      refine ⟨_, _, _, _, rfl, rfl, (SqT.of (Ow.at_new h_p_20 (Ow.at_new h_p_19 (Ow.at_new h_p_18 h21)))), (by first | rfl | decide), ?_⟩
      refine ⟨by show 2 ≤ sizeLine; decide, fun p_21 h_p_21 => ?_⟩
      refine ⟨by show 4 ≤ sizeLine; decide, fun p_22 h_p_22 => ?_⟩
      refine ⟨_, rfl, ?_⟩
      refine ⟨_, rfl, ⟨_, (SqL.of upd_same)⟩, ?_⟩
      refine Ow.un_start (K := K) (a := p_22) (xs := [.ref p_18, .ref p_19, .ref p_20, .ref p_21]) ?_
      refine ⟨(SqL.of upd_same), ?_⟩
      refine ⟨_, _, rfl, (SqT.of (Ow.at_new h_p_22 (Ow.at_new h_p_21 (Ow.at_new h_p_20 (Ow.at_new h_p_19 upd_same))))), rfl, ?_⟩
      refine ⟨_, _, rfl, ?_⟩
      refine ⟨_, _, rfl, ?_⟩
      refine ⟨rfl, ?_⟩
      refine ⟨_, rfl, ?_⟩
      refine ⟨_, rfl, ?_⟩
      refine ⟨_, rfl, ?_⟩
      refine iteF ?_
      refine ⟨_, rfl, ?_⟩
      refine ⟨_, rfl, ?_⟩
      refine ⟨rfl, ?_⟩
      refine ⟨_, rfl, ?_⟩
      refine Ow.ifnei (fun h22 => ?_) (fun h22 => ?_)
      · exact ((by walk_at "o2") : False).elim
      · refine ⟨(SqL.of upd_same), ?_⟩
        refine ⟨_, _, rfl, (SqT.of (Ow.at_new h_p_22 (Ow.at_new h_p_21 (Ow.at_new h_p_20 upd_same)))), rfl, ?_⟩
        refine ⟨_, _, rfl, ?_⟩
        refine ⟨_, _, rfl, ?_⟩
        refine ⟨rfl, ?_⟩
        refine ⟨_, rfl, ?_⟩
        refine ⟨_, rfl, ?_⟩
        refine ⟨_, rfl, ?_⟩
        refine iteF ?_
        refine ⟨_, rfl, ?_⟩
        refine ⟨_, rfl, ?_⟩
        refine ⟨rfl, ?_⟩
        refine ⟨_, rfl, ?_⟩
        refine Ow.ifnei (fun h23 => ?_) (fun h23 => ?_)
        · exact ((by walk_at "o2") : False).elim
        · refine ⟨(SqL.of upd_same), ?_⟩
          refine ⟨_, _, rfl, (SqT.of (Ow.at_new h_p_22 (Ow.at_new h_p_21 upd_same))), rfl, ?_⟩
          refine ⟨_, _, rfl, ?_⟩
          refine ⟨_, _, rfl, ?_⟩
          refine ⟨rfl, ?_⟩
          refine ⟨_, rfl, ?_⟩
          refine ⟨_, rfl, ?_⟩
          refine ⟨_, rfl, ?_⟩
          refine iteF ?_
          refine ⟨_, rfl, ?_⟩
          refine ⟨_, rfl, ?_⟩
          refine ⟨rfl, ?_⟩
          refine ⟨_, rfl, ?_⟩
          refine Ow.ifnei (fun h24 => ?_) (fun h24 => ?_)
          · exact ((by walk_at "o2") : False).elim
          · refine ⟨(SqL.of upd_same), ?_⟩
            refine ⟨_, _, rfl, (SqT.of (Ow.at_new h_p_22 upd_same)), rfl, ?_⟩
            refine ⟨_, _, rfl, ?_⟩
            refine ⟨_, _, rfl, ?_⟩
            refine ⟨rfl, ?_⟩
            refine ⟨_, rfl, ?_⟩
            refine ⟨_, rfl, ?_⟩
            refine ⟨_, rfl, ?_⟩
            refine iteF ?_
            refine ⟨_, rfl, ?_⟩
            refine ⟨_, rfl, ?_⟩
            refine ⟨rfl, ?_⟩
            refine ⟨_, rfl, ?_⟩
            refine Ow.ifnei (fun h25 => ?_) (fun h25 => ?_)
            · exact ((by walk_at "o2") : False).elim
            · refine ⟨(SqL.of upd_same), ?_⟩
              refine ⟨_, rfl, ?_⟩
              refine ⟨_, _, _, _, false, rfl, .own _, (Ow.tyIns T.k_Pointed.cl T.ic_Pointed (Ow.at_new h_p_22 (Ow.at_new h_p_21 (Ow.at_new h_p_20 (Ow.at_new h_p_19 (Ow.at_new h_p_18 (h19 _ _ c0))))))), T.kic_Pointed_Plain, ?_⟩
              refine ⟨_, rfl, ?_⟩
              refine ⟨_, _, _, _, false, rfl, .own _, (Ow.tyIns T.k_Pointed.cl T.ic_Pointed (Ow.at_new h_p_22 (Ow.at_new h_p_21 (Ow.at_new h_p_20 (Ow.at_new h_p_19 (Ow.at_new h_p_18 (h19 _ _ c0))))))), T.kic_Pointed_Signed, ?_⟩
              refine ⟨_, rfl, ?_⟩
              refine ⟨_, _, _, _, true, rfl, .own _, (Ow.tyIns T.k_Pointed.cl T.ic_Pointed (Ow.at_new h_p_22 (Ow.at_new h_p_21 (Ow.at_new h_p_20 (Ow.at_new h_p_19 (Ow.at_new h_p_18 (h19 _ _ c0))))))), T.kic_Pointed_Pointed, ?_⟩
              refine ⟨by show 3 ≤ sizeLine; decide, fun p_23 h_p_23 => ?_⟩
              refine ⟨_, rfl, ?_⟩
              refine ⟨_, rfl, ?_⟩
              refine ⟨_, _, _, _, rfl, rfl, (SqT.of (Ow.at_new h_p_23 (Ow.at_new h_p_22 (Ow.at_new h_p_21 (Ow.at_new h_p_20 (Ow.at_new h_p_19 (Ow.at_new h_p_18 (h19 _ _ c1)))))))), (by first | rfl | decide), ?_⟩
              refine ⟨rfl, ?_⟩
              refine ⟨_, rfl, ?_⟩
              refine ⟨_, _, _, _, rfl, rfl, (SqT.of (Ow.at_new h_p_23 (Ow.at_new h_p_22 (Ow.at_new h_p_21 (Ow.at_new h_p_20 (Ow.at_new h_p_19 (Ow.at_new h_p_18 (h19 _ _ c1)))))))), (by first | rfl | decide), ?_⟩
              refine ⟨rfl, ?_⟩
              refine ⟨_, rfl, ?_⟩
              refine ⟨_, _, _, _, rfl, rfl, (SqT.of (Ow.at_new h_p_23 (Ow.at_new h_p_22 (Ow.at_new h_p_21 (Ow.at_new h_p_20 (Ow.at_new h_p_19 (Ow.at_new h_p_18 (h19 _ _ c1)))))))), (by first | rfl | decide), ?_⟩
              refine ⟨rfl, ?_⟩
              refine ⟨by show 3 ≤ sizeLine; decide, fun p_24 h_p_24 => ?_⟩
              refine ⟨(.list [PyData.bool false, PyData.bool false, PyData.bool true]), (.list [PyData.bool (decide ((V.str ("point")) = V.str ("plain"))), PyData.bool (decide ((V.str ("point")) = V.str ("signed"))), PyData.bool (decide ((V.str ("point")) = V.str ("point")))]), (.lst (SqL.of (Ow.at_new h_p_24 upd_same)) (.cons (.bl _) (.cons (.bl _) (.cons (.bl _) .nil)))), (.lst (SqL.of upd_same) (.cons (.bl _) (.cons (.bl _) (.cons (.bl _) .nil)))), (by first | rfl | exact Ow.shp (by first | rfl | (simp only [PyData.canLay0, PyData.canLayAll0, Bool.and_true, Bool.true_and]; first | decide +kernel | assumption | (simp_all; done))) (by simp [PyData.depth, PyData.depthAll])), (by first | rfl | exact Ow.shp (by first | rfl | (simp only [PyData.canLay0, PyData.canLayAll0, Bool.and_true, Bool.true_and]; first | decide +kernel | assumption | (simp_all; done))) (by simp [PyData.depth, PyData.depthAll])), ?_⟩
              rw [show PyData.eqv ((.list [PyData.bool false, PyData.bool false, PyData.bool true])) ((.list [PyData.bool (decide ((V.str ("point")) = V.str ("plain"))), PyData.bool (decide ((V.str ("point")) = V.str ("signed"))), PyData.bool (decide ((V.str ("point")) = V.str ("point")))])) = true by first | (simp [PyData.eqv, PyData.eqvAll]; done) | decide +kernel]
              exact kont _ (((((((h19.trans (Ow.same_new h_p_18)).trans (Ow.same_new h_p_19)).trans (Ow.same_new h_p_20)).trans (Ow.same_new h_p_21)).trans (Ow.same_new h_p_22)).trans (Ow.same_new h_p_23)).trans (Ow.same_new h_p_24))
theorem ok_l_words_at (T : Tx K mg) : FnOk P w K mg base CX0 1 T.d_l_words_at.f T.d_l_words_at.fd ["_law_width"] (sp_l_words_at T) := by
  refine T.d_l_words_at.F.ok sc_l_words_at (fun vs H Q E h => ?_) (fun cdv A outer s H vs Q E hr h => ?_)
  · obtain ⟨width, rfl, _⟩ := h
    rfl
  · obtain ⟨width, rfl, c0, c1, kont⟩ := h
    have p32_width := Ow.pow2_le32 (w := width) (by omega)
    have p0_width := Ow.p2 width.toNat
    have pp := Ow.pow2_pred (w := width) (by omega)
    have p8 := Ow.pow2_mono (a := 3) (b := (width - 1).toNat) (by omega)
    refine ⟨_, (pss_cons (ps_set (i := 1) sc_l_words_at.nd rfl (Or.inl rfl) (pe_op Ow.op_shl1 pe_int (pe_op op_sub (pv 0) pe_int)))
        (pss_one (ps_ret (pe_tup (pa_cons pe_int (pa_cons pe_int (pa_cons (pe_op op_sub (pv 1) pe_int) (pa_cons (pv 1) (pa_cons (pe_op op_sub (pe_op Ow.op_mulN pe_int (pv 1)) pe_int) pa_nil))))))))), ?_⟩
    refine ⟨_, rfl, ?_⟩
    refine ⟨_, _, rfl, rfl, ?_⟩
    refine ⟨_, rfl, rfl, (by walk_at "o2"), fun l_half h_l_half h0_l_half => ?_⟩
    refine ⟨_, rfl, ?_⟩
    refine ⟨_, _, rfl, rfl, ?_⟩
    refine ⟨_, rfl, ?_⟩
    refine ⟨_, rfl, ?_⟩
    refine ⟨_, _, rfl, rfl, (by walk_at "o2"), fun m h_m => ?_⟩
    refine ⟨_, _, rfl, rfl, ?_⟩
    refine ⟨by show 5 ≤ sizeLine; decide, fun p h_p => ?_⟩
    exact kont (l_half - 1) l_half (m - 1) (by walk_at "o2") (by walk_at "o2") (by walk_at "o2") (by walk_at "o2") (by walk_at "o2") (by walk_at "o2") (by walk_at "o2") _ _ (Ow.same_new h_p) h_p upd_same
theorem ok_l_shared (T : Tx K mg) : FnOk P w K mg base CX0 1 T.d_l_shared.f T.d_l_shared.fd ["_law_one", "_law_other"] (sp_l_shared T) := by
  refine T.d_l_shared.F.ok sc_l_shared (fun vs H Q E h => ?_) (fun cdv A outer s H vs Q E hr h => ?_)
  · obtain ⟨one, other, rfl, _⟩ := h
    rfl
  · obtain ⟨one, other, rfl, c0, c1, kont⟩ := h
    refine ⟨_, (pss_cons (ps_set (i := 0) sc_l_shared.nd rfl (Or.inl rfl) (Ow.pe_nmi (pe_callB call_abs (by rfl) T.z_abs (by decide +kernel) (pa_cons (pv 0) pa_nil))))
        (pss_cons (ps_while PassesOwn.never (pt_cmpR op_gt (pv 1) pe_int (nomark _)) (pss_one (ps_par (i := 0) (j := 1) (by rfl) sc_l_shared.nd rfl rfl (by decide) rfl rfl (pa_cons (pv 1) (pa_cons (pe_op Ow.op_modN (pv 0) (pv 1)) pa_nil)) (by rfl))))
        (pss_one (ps_ret (pv 0))))), ?_⟩
    refine ⟨_, rfl, ?_⟩
    refine ⟨_, rfl, ?_⟩
    refine ⟨_, rfl, fun ab h_ab => ?_⟩
    have hm_ab := Ow.abs_ite h_ab
    obtain ⟨Wi, h1⟩ : ∃ W : Hp → Nat → L2.St → Hp → Prop, W = fun H0 m σ2 H2 => ∃ (a : Int) (b : Int), m = b.toNat ∧ σ2 = [some (.int (a)), some (.int (b))] ∧ H2 = H0 ∧ (0 ≤ a) ∧ (0 ≤ b) ∧ ((Int.gcd a b : Int) = Int.gcd one other) ∧ True := ⟨_, rfl⟩
    refine ⟨Wi _, ⟨_, by rw [h1]; exact ⟨_, _, rfl, rfl, rfl, (by first | omega | exact Ow.gcd_abs1 h_ab), (by first | omega | exact Ow.gcd_abs1 h_ab), (by first | omega | exact Ow.gcd_abs1 h_ab), trivial⟩⟩, ?_⟩
    intro m σ2 Hn h3
    rw [h1] at h3
    obtain ⟨a, b, rfl, rfl, rfl, h4, h5, h6, _⟩ := h3
    refine ⟨_, rfl, ?_⟩
    refine ⟨_, _, rfl, rfl, ?_⟩
    refine ⟨_, rfl, ?_⟩
    refine Ow.ifd (fun h7 => ?_) (fun h7 => ?_)
    · refine ⟨fun σ3 H3 => ∃ m2, m2 < b.toNat ∧ Wi _ m2 σ3 H3, fun _ _ z => z, ?_⟩
      refine ⟨_, rfl, ?_⟩
      refine ⟨_, rfl, ?_⟩
      refine ⟨_, rfl, ?_⟩
      refine ⟨_, _, rfl, rfl, (by walk_at "o2"), fun r h_r h0_r h1_r => ?_⟩
      refine ⟨_, _, rfl, ?_⟩
      refine ⟨_, ?_, by rw [h1]; exact ⟨b, r, rfl, rfl, rfl, (by first | omega | exact Ow.gcd_step (by assumption) (by assumption) (by assumption) (by assumption)), (by first | omega | exact Ow.gcd_step (by assumption) (by assumption) (by assumption) (by assumption)), (by first | omega | exact Ow.gcd_step (by assumption) (by assumption) (by assumption) (by assumption)), trivial⟩⟩
      first | (walk_at "o2")
    · refine ⟨_, rfl, ?_⟩
      have d0 := Ow.gcd_end (by assumption) (by assumption) (by assumption) (by assumption)
      exact kont a (by first | assumption | omega)
theorem ok_l_value_right (T : Tx K mg) : FnOk P w K mg base CX0 2 T.d_l_value_right.f T.d_l_value_right.fd ["_law_found", "_law_count", "_law_point"] (sp_l_value_right T) := by
  refine T.d_l_value_right.F.ok sc_l_value_right (fun vs H Q E h => ?_) (fun cdv A outer s H vs Q E hr h => ?_)
  · obtain ⟨found, count, point, t, b, rfl, _⟩ := h
    rfl
  · obtain ⟨found, count, point, t, b, rfl, c0, c1, c2, c3, c4, c5, c6, c7, c8, c9, c10, kont⟩ := h
    refine ⟨_, (pss_cons (ps_if (PW.pt (pw_or (pt_not (pt_val (pe_callB call_isi (by rfl) T.z_isinstance (by decide +kernel) (pa_cons (pv 0) (pa_cons (pe_bltn (v := .ty "tuple") (by rfl) T.z_tuple (by decide +kernel) rfl) pa_nil))))) (pw_or (pt_cmpR op_ne (Ow.pe_nmi (pe_callB call_len_seq (by rfl) T.z_len (by decide +kernel) (pa_cons (pv 0) pa_nil))) pe_int (nomark _)) (pw_or (pt_not (pt_val (pe_call (Ow.ok_l_whole T) (hr.mono (by decide : 1 ≤ 1)) (by rfl) T.d_l_whole.m T.d_l_whole.F.kp T.d_l_whole.b .nil pass0 (pa_cons (pe_ix ix_tup (pv 0) pe_int (fun _ _ => rfl)) pa_nil)))) (pw_or1 (pt_not (pt_val (pe_call (Ow.ok_l_whole T) (hr.mono (by decide : 1 ≤ 1)) (by rfl) T.d_l_whole.m T.d_l_whole.F.kp T.d_l_whole.b .nil pass0 (pa_cons (pe_ix ix_tup (pv 0) pe_int (fun _ _ => rfl)) pa_nil))))))))) (pss_one (ps_ret pe_bl)) pss_nil)
        (pss_cons (ps_if (PW.pt (pw_or (pt_cmpR op_lt (pe_ix ix_tup (pv 0) pe_int (fun _ _ => rfl)) pe_int (nomark _)) (pw_or1 (pt_cmpR op_ne (pe_op Ow.op_mulN (pe_ix ix_tup (pv 0) pe_int (fun _ _ => rfl)) (pe_op Ow.op_shl1 pe_int (pv 2))) (pe_op Ow.op_mulN (pv 1) (pe_ix ix_tup (pv 0) pe_int (fun _ _ => rfl))) (nomark _))))) (pss_one (ps_ret pe_bl)) pss_nil)
        (pss_one (ps_ret (pe_cmpR op_eq (pe_call (Ow.ok_l_shared T) (hr.mono (by decide : 1 ≤ 1)) (by rfl) T.d_l_shared.m T.d_l_shared.F.kp T.d_l_shared.b .nil pass0 (pa_cons (pe_ix ix_tup (pv 0) pe_int (fun _ _ => rfl)) (pa_cons (pe_ix ix_tup (pv 0) pe_int (fun _ _ => rfl)) pa_nil))) pe_int (nomark _)))))), ?_⟩
    refine ⟨_, rfl, ?_⟩
    refine ⟨_, _, _, _, true, rfl, .ty _, .base (.tup c0), kit_ty (by decide +kernel), ?_⟩
    refine ⟨_, rfl, ?_⟩
    refine iteF ?_
    refine ⟨_, rfl, ?_⟩
    refine ⟨_, _, rfl, .inr (SqT.of c0), ?_⟩
    refine ⟨_, rfl, fun len h_len => ?_⟩
    replace h_len : len = 2 := h_len
    refine ⟨rfl, ?_⟩
    refine ⟨_, rfl, ?_⟩
    refine Ow.ifnei (fun h1 => ?_) (fun h1 => ?_)
    · refine iteT ?_
      exact ((by walk_at "o2") : False).elim
    · refine ⟨_, rfl, ?_⟩
      refine ⟨_, _, _, _, rfl, rfl, (SqT.of c0), (by first | rfl | decide), ?_⟩
      refine ⟨_, rfl, ?_⟩
      refine ⟨_, rfl, ?_⟩
      refine iteF ?_
      refine ⟨_, rfl, ?_⟩
      refine ⟨_, _, _, _, rfl, rfl, (SqT.of c0), (by first | rfl | decide), ?_⟩
      refine ⟨_, rfl, ?_⟩
      refine ⟨_, rfl, ?_⟩
      refine iteF ?_
      refine ⟨_, rfl, ?_⟩
      refine ⟨_, _, _, _, rfl, rfl, (SqT.of c0), (by first | rfl | decide), ?_⟩
      refine ⟨_, _, rfl, rfl, ?_⟩
      refine ⟨_, rfl, ?_⟩
      refine Ow.ifd (fun h2 => ?_) (fun h2 => ?_)
      · refine iteT ?_
        exact ((by walk_at "o2") : False).elim
      · refine ⟨_, rfl, ?_⟩
        refine ⟨_, _, _, _, rfl, rfl, (SqT.of c0), (by first | rfl | decide), ?_⟩
        refine ⟨_, rfl, ?_⟩
        refine ⟨_, rfl, rfl, (by walk_at "o2"), fun B h_B h0_B => ?_⟩
        refine ⟨_, _, rfl, rfl, (by walk_at "o2"), fun m h_m => ?_⟩
        refine ⟨_, rfl, ?_⟩
        refine ⟨_, rfl, ?_⟩
        refine ⟨_, _, _, _, rfl, rfl, (SqT.of c0), (by first | rfl | decide), ?_⟩
        refine ⟨_, _, rfl, rfl, (by walk_at "o2"), fun m_2 h_m_2 => ?_⟩
        refine ⟨rfl, ?_⟩
        refine ⟨_, rfl, ?_⟩
        refine Ow.ifnei (fun h3 => ?_) (fun h3 => ?_)
        · exact ((by walk_at "o2") : False).elim
        · refine ⟨_, rfl, ?_⟩
          refine ⟨_, _, _, _, rfl, rfl, (SqT.of c0), (by first | rfl | decide), ?_⟩
          refine ⟨_, rfl, ?_⟩
          refine ⟨_, _, _, _, rfl, rfl, (SqT.of c0), (by first | rfl | decide), ?_⟩
          refine ⟨_, _, rfl, (by walk_at "o2"), (by walk_at "o2"), fun t_2 h4 => ?_⟩
          refine ⟨rfl, ?_⟩
          refine Ow.eqeqi (by walk_at "o2") ?_
          exact kont _ (Same.refl _)
theorem ok_Kind_count_of (T : Tx K mg) : FnOk P w K mg base CX0 3 T.d_Kind_count_of.f T.d_Kind_count_of.fd ["self", "bits"] (sp_Kind_count_of T) := by
  refine T.d_Kind_count_of.F.ok sc_Kind_count_of (fun vs H Q E h => ?_) (fun cdv A outer s H vs Q E hr h => ?_)
  · obtain ⟨self, bits, kd, dx_self, rfl, _⟩ := h
    rfl
  · obtain ⟨self, bits, kd, dx_self, rfl, c0, c1, c2, c3, kont⟩ := h
    refine ⟨_, (pss_cons (ps_if (PW.pt (pw_or (pt_not (pt_val (pe_call (Ow.ok_is_whole T) (hr.mono (by decide : 1 ≤ 2)) (by rfl) T.d_is_whole.m T.d_is_whole.F.kp T.d_is_whole.b .nil pass0 (pa_cons (pv 1) pa_nil)))) (pw_or1 (pt_not (pt_chain op_le op_lt pe_int (pv 1) (pe_op Ow.op_shl1 pe_int (pe_fld (pv 0) rfl))))))) (pss_one ps_never) pss_nil)
        (pss_cons (ps_if (pt_cmpR op_gt (pv 1) (Ow.pe_methA0 (R := fun C sp => (C = T.k_Plain.C ∧ sp = sp_Plain_greatest T) ∨ (C = T.k_Signed.C ∧ sp = sp_Kind_greatest T) ∨ (C = T.k_Pointed.C ∧ sp = sp_Kind_greatest T)) (pv 0) (Ow.mal_or (Ow.mal_one ⟨_, _, _, _, T.k_Plain.cl, T.mt_Plain_greatest, Ow.ok_Plain_greatest T, hr.mono (by decide : 1 ≤ 2), T.d_Plain_greatest.b⟩) (Ow.mal_or (Ow.mal_one ⟨_, _, _, _, T.k_Signed.cl, T.mt_Signed_greatest, Ow.ok_Kind_greatest T, hr.mono (by decide : 1 ≤ 2), T.d_Kind_greatest.b⟩) (Ow.mal_one ⟨_, _, _, _, T.k_Pointed.cl, T.mt_Pointed_greatest, Ow.ok_Kind_greatest T, hr.mono (by decide : 1 ≤ 2), T.d_Kind_greatest.b⟩))) pass0) (nomark _)) (pss_one (ps_ret (pe_op op_sub (pv 1) (pe_op Ow.op_shl1 pe_int (pe_fld (pv 0) rfl))))) pss_nil)
        (pss_one (ps_ret (pv 1))))), ?_⟩
    rcases kd with ⟨kd_w⟩ | ⟨kd_w_2⟩ | ⟨kd_w_3, kd_p⟩
    · replace c0 : H self = some (.ins T.k_Plain.C dx_self [(("width" : Str), V.int (kd_w)), (("point" : Str), V.int (0))]) := c0
      have hk := Ow.krng c1
      have hl := Ow.kle c1
      have hg := Ow.kge c1
      simp only [Ow.KOk] at c1
      simp only [Ow.kw] at hk
      simp only [Ow.kle1] at hl
      simp only [Ow.kge1] at hg
      simp only [Ow.kw] at c3
      refine ⟨_, rfl, ?_⟩
      refine ⟨_, rfl, ?_⟩
      refine ⟨_, rfl, ?_⟩
      refine iteF ?_
      refine ⟨_, rfl, ?_⟩
      refine ⟨_, _, rfl, rfl, ?_⟩
      refine ⟨_, rfl, ?_⟩
      refine Ow.ifd (fun h1 => ?_) (fun h1 => ?_)
      · refine ⟨_, rfl, ?_⟩
        refine ⟨_, _, _, _, V.int (kd_w), rfl, c0, T.k_Plain.cl, T.na_Plain_width, rfl, ?_⟩
        refine ⟨_, rfl, rfl, (by walk_at "o2"), fun B h_B h0_B => ?_⟩
        refine ⟨_, _, rfl, rfl, ?_⟩
        refine ⟨_, rfl, ?_⟩
        refine Ow.ifnd (fun h2 => ?_) (fun h2 => ?_)
        · exact ((by walk_at "o2") : False).elim
        · refine ⟨_, rfl, ?_⟩
          refine ⟨_, rfl, ?_⟩
          refine ⟨_, _, _, _, _, rfl, .inl ⟨rfl, rfl⟩, c0, rfl, ?_⟩
          refine ⟨_, _, _, _, rfl, c0, (by walk_at "o2"), (by walk_at "o2"), ?_⟩
          refine ⟨_, _, rfl, rfl, ?_⟩
          refine ⟨_, rfl, ?_⟩
          refine Ow.ifd (fun h3 => ?_) (fun h3 => ?_)
          · refine ⟨_, rfl, ?_⟩
            refine ⟨_, rfl, ?_⟩
            refine ⟨_, _, _, _, V.int (kd_w), rfl, c0, T.k_Plain.cl, T.na_Plain_width, rfl, ?_⟩
            refine ⟨_, rfl, rfl, (by walk_at "o2"), fun B_2 h_B_2 h0_B_2 => ?_⟩
            refine ⟨_, _, rfl, rfl, ?_⟩
            exact kont (bits - B_2) (by first | (rw [Ow.kc1 (kd := ((Ow.Tf_Kind.plain kd_w))) (b := bits) (by omega)]; simp only [Ow.kw]; omega) | (rw [Ow.kc0 (kd := ((Ow.Tf_Kind.plain kd_w))) (by omega)])) _ (Same.refl _)
          · refine ⟨_, rfl, ?_⟩
            exact kont bits (by first | (rw [Ow.kc1 (kd := ((Ow.Tf_Kind.plain kd_w))) (b := bits) (by omega)]; simp only [Ow.kw]; omega) | (rw [Ow.kc0 (kd := ((Ow.Tf_Kind.plain kd_w))) (by omega)])) _ (Same.refl _)
      · refine ⟨_, rfl, ?_⟩
        refine iteT ?_
        exact ((by walk_at "o2") : False).elim
    · replace c0 : H self = some (.ins T.k_Signed.C dx_self [(("width" : Str), V.int (kd_w_2)), (("point" : Str), V.int (0))]) := c0
      have hk := Ow.krng c1
      have hl := Ow.kle c1
      have hg := Ow.kge c1
      simp only [Ow.KOk] at c1
      simp only [Ow.kw] at hk
      simp only [Ow.kle1] at hl
      simp only [Ow.kge1] at hg
      simp only [Ow.kw] at c3
      refine ⟨_, rfl, ?_⟩
      refine ⟨_, rfl, ?_⟩
      refine ⟨_, rfl, ?_⟩
      refine iteF ?_
      refine ⟨_, rfl, ?_⟩
      refine ⟨_, _, rfl, rfl, ?_⟩
      refine ⟨_, rfl, ?_⟩
      refine Ow.ifd (fun h4 => ?_) (fun h4 => ?_)
      · refine ⟨_, rfl, ?_⟩
        refine ⟨_, _, _, _, V.int (kd_w_2), rfl, c0, T.k_Signed.cl, T.na_Signed_width, rfl, ?_⟩
        refine ⟨_, rfl, rfl, (by walk_at "o2"), fun B_3 h_B_3 h0_B_3 => ?_⟩
        refine ⟨_, _, rfl, rfl, ?_⟩
        refine ⟨_, rfl, ?_⟩
        refine Ow.ifnd (fun h5 => ?_) (fun h5 => ?_)
        · exact ((by walk_at "o2") : False).elim
        · refine ⟨_, rfl, ?_⟩
          refine ⟨_, rfl, ?_⟩
          refine ⟨_, _, _, _, _, rfl, .inr (.inl ⟨rfl, rfl⟩), c0, rfl, ?_⟩
          refine ⟨_, _, _, Ow.F_Kind.Signed, _, rfl, c0, (by walk_at "o2"), (by walk_at "o2"), ?_⟩
          refine ⟨_, _, rfl, rfl, ?_⟩
          refine ⟨_, rfl, ?_⟩
          refine Ow.ifd (fun h6 => ?_) (fun h6 => ?_)
          · refine ⟨_, rfl, ?_⟩
            refine ⟨_, rfl, ?_⟩
            refine ⟨_, _, _, _, V.int (kd_w_2), rfl, c0, T.k_Signed.cl, T.na_Signed_width, rfl, ?_⟩
            refine ⟨_, rfl, rfl, (by walk_at "o2"), fun B_4 h_B_4 h0_B_4 => ?_⟩
            refine ⟨_, _, rfl, rfl, ?_⟩
            exact kont (bits - B_4) (by first | (rw [Ow.kc1 (kd := ((Ow.Tf_Kind.signed kd_w_2))) (b := bits) (by omega)]; simp only [Ow.kw]; omega) | (rw [Ow.kc0 (kd := ((Ow.Tf_Kind.signed kd_w_2))) (by omega)])) _ (Same.refl _)
          · refine ⟨_, rfl, ?_⟩
            exact kont bits (by first | (rw [Ow.kc1 (kd := ((Ow.Tf_Kind.signed kd_w_2))) (b := bits) (by omega)]; simp only [Ow.kw]; omega) | (rw [Ow.kc0 (kd := ((Ow.Tf_Kind.signed kd_w_2))) (by omega)])) _ (Same.refl _)
      · refine ⟨_, rfl, ?_⟩
        refine iteT ?_
        exact ((by walk_at "o2") : False).elim
    · replace c0 : H self = some (.ins T.k_Pointed.C dx_self [(("width" : Str), V.int (kd_w_3)), (("point" : Str), V.int (kd_p))]) := c0
      have hk := Ow.krng c1
      have hl := Ow.kle c1
      have hg := Ow.kge c1
      simp only [Ow.KOk] at c1
      simp only [Ow.kw] at hk
      simp only [Ow.kle1] at hl
      simp only [Ow.kge1] at hg
      simp only [Ow.kw] at c3
      refine ⟨_, rfl, ?_⟩
      refine ⟨_, rfl, ?_⟩
      refine ⟨_, rfl, ?_⟩
      refine iteF ?_
      refine ⟨_, rfl, ?_⟩
      refine ⟨_, _, rfl, rfl, ?_⟩
      refine ⟨_, rfl, ?_⟩
      refine Ow.ifd (fun h7 => ?_) (fun h7 => ?_)
      · refine ⟨_, rfl, ?_⟩
        refine ⟨_, _, _, _, V.int (kd_w_3), rfl, c0, T.k_Pointed.cl, T.na_Pointed_width, rfl, ?_⟩
        refine ⟨_, rfl, rfl, (by walk_at "o2"), fun B_5 h_B_5 h0_B_5 => ?_⟩
        refine ⟨_, _, rfl, rfl, ?_⟩
        refine ⟨_, rfl, ?_⟩
        refine Ow.ifnd (fun h8 => ?_) (fun h8 => ?_)
        · exact ((by walk_at "o2") : False).elim
        · refine ⟨_, rfl, ?_⟩
          refine ⟨_, rfl, ?_⟩
          refine ⟨_, _, _, _, _, rfl, .inr (.inr (⟨rfl, rfl⟩)), c0, rfl, ?_⟩
          refine ⟨_, _, _, Ow.F_Kind.Pointed, _, rfl, c0, (by walk_at "o2"), (by walk_at "o2"), ?_⟩
          refine ⟨_, _, rfl, rfl, ?_⟩
          refine ⟨_, rfl, ?_⟩
          refine Ow.ifd (fun h9 => ?_) (fun h9 => ?_)
          · refine ⟨_, rfl, ?_⟩
            refine ⟨_, rfl, ?_⟩
            refine ⟨_, _, _, _, V.int (kd_w_3), rfl, c0, T.k_Pointed.cl, T.na_Pointed_width, rfl, ?_⟩
            refine ⟨_, rfl, rfl, (by walk_at "o2"), fun B_6 h_B_6 h0_B_6 => ?_⟩
            refine ⟨_, _, rfl, rfl, ?_⟩
            exact kont (bits - B_6) (by first | (rw [Ow.kc1 (kd := ((Ow.Tf_Kind.point kd_w_3 kd_p))) (b := bits) (by omega)]; simp only [Ow.kw]; omega) | (rw [Ow.kc0 (kd := ((Ow.Tf_Kind.point kd_w_3 kd_p))) (by omega)])) _ (Same.refl _)
          · refine ⟨_, rfl, ?_⟩
            exact kont bits (by first | (rw [Ow.kc1 (kd := ((Ow.Tf_Kind.point kd_w_3 kd_p))) (b := bits) (by omega)]; simp only [Ow.kw]; omega) | (rw [Ow.kc0 (kd := ((Ow.Tf_Kind.point kd_w_3 kd_p))) (by omega)])) _ (Same.refl _)
      · refine ⟨_, rfl, ?_⟩
        refine iteT ?_
        exact ((by walk_at "o2") : False).elim
theorem ok_Kind_value_of (T : Tx K mg) : FnOk P w K mg base CX0 4 T.d_Kind_value_of.f T.d_Kind_value_of.fd ["self", "bits"] (sp_Kind_value_of T) := by
  refine T.d_Kind_value_of.F.ok sc_Kind_value_of (fun vs H Q E h => ?_) (fun cdv A outer s H vs Q E hr h => ?_)
  · obtain ⟨self, bits, kd, dx_self, rfl, _⟩ := h
    rfl
  · obtain ⟨self, bits, kd, dx_self, rfl, c0, c1, c2, c3, kont⟩ := h
    refine ⟨_, (pss_cons (ps_set (i := 2) sc_Kind_value_of.nd rfl (Or.inl rfl) (Ow.pe_methA (R := fun C sp => (C = T.k_Plain.C ∧ sp = sp_Kind_count_of T) ∨ (C = T.k_Signed.C ∧ sp = sp_Kind_count_of T) ∨ (C = T.k_Pointed.C ∧ sp = sp_Kind_count_of T)) (pv 0) (Ow.mal_or (Ow.mal_one ⟨_, _, _, _, T.k_Plain.cl, T.mt_Plain_count_of, Ow.ok_Kind_count_of T, hr.mono (by decide : 3 ≤ 3), T.d_Kind_count_of.b⟩) (Ow.mal_or (Ow.mal_one ⟨_, _, _, _, T.k_Signed.cl, T.mt_Signed_count_of, Ow.ok_Kind_count_of T, hr.mono (by decide : 3 ≤ 3), T.d_Kind_count_of.b⟩) (Ow.mal_one ⟨_, _, _, _, T.k_Pointed.cl, T.mt_Pointed_count_of, Ow.ok_Kind_count_of T, hr.mono (by decide : 3 ≤ 3), T.d_Kind_count_of.b⟩))) pass0 (pa_cons (pv 1) pa_nil)))
        (pss_cons (ps_set (i := 3) sc_Kind_value_of.nd rfl (Or.inl rfl) (pe_op Ow.op_shl1 pe_int (pe_fld (pv 0) rfl)))
        (pss_cons (ps_while PassesOwn.never (PW.pt (pw_and (pt_cmpR op_gt (pv 3) pe_int (nomark _)) (pw_and1 (pt_cmpR op_eq (pe_op Ow.op_modN (pv 2) pe_int) pe_int (nomark _))))) (pss_cons (ps_set (i := 2) sc_Kind_value_of.nd rfl (Or.inl rfl) (pe_op Ow.op_divN (pv 2) pe_int))
        (pss_one (ps_set (i := 3) sc_Kind_value_of.nd rfl (Or.inl rfl) (pe_op Ow.op_divN (pv 3) pe_int)))))
        (pss_one (ps_ret (pe_tup (pa_cons (pv 2) (pa_cons (pv 3) pa_nil)))))))), ?_⟩
    rcases kd with ⟨kd_w⟩ | ⟨kd_w_2⟩ | ⟨kd_w_3, kd_p⟩
    · replace c0 : H self = some (.ins T.k_Plain.C dx_self [(("width" : Str), V.int (kd_w)), (("point" : Str), V.int (0))]) := c0
      have kr := Ow.kc_rng (kd := ((Ow.Tf_Kind.plain kd_w))) (b := bits) c1 c2 c3
      have hpp := Ow.pow2_mono (a := (Ow.kp ((Ow.Tf_Kind.plain kd_w))).toNat) (b := 31) (by simp only [Ow.KOk] at c1; simp only [Ow.kp]; omega)
      simp only [Ow.kp] at hpp
      have hk := Ow.krng c1
      have hl := Ow.kle c1
      have hg := Ow.kge c1
      simp only [Ow.KOk] at c1
      simp only [Ow.kw] at hk
      simp only [Ow.kle1] at hl
      simp only [Ow.kge1] at hg
      refine ⟨_, rfl, ?_⟩
      refine ⟨_, _, _, _, _, rfl, .inl ⟨rfl, rfl⟩, c0, rfl, ?_⟩
      refine ⟨_, rfl, ?_⟩
      refine ⟨_, _, ((Ow.Tf_Kind.plain kd_w)), _, rfl, c0, (by walk_at "o2"), (by walk_at "o2"), (by walk_at "o2"), fun top h1 Hn h2 => ?_⟩
      refine ⟨_, rfl, ?_⟩
      refine ⟨_, _, _, _, V.int (0), rfl, (h2 _ _ c0), T.k_Plain.cl, T.na_Plain_point, rfl, ?_⟩
      refine ⟨_, rfl, rfl, (by walk_at "o2"), fun bottom h_bottom h0_bottom => ?_⟩
      obtain ⟨Wi, h3⟩ : ∃ W : Hp → Nat → L2.St → Hp → Prop, W = fun H0 m σ2 H2 => ∃ (tt : Int) (bb : Int), m = bb.toNat ∧ σ2 = [some (.ref self), some (.int (bits)), some (.int (tt)), some (.int (bb))] ∧ H2 = H0 ∧ (tt * 2 ^ (Ow.kp ((Ow.Tf_Kind.plain kd_w))).toNat = Ow.kc ((Ow.Tf_Kind.plain kd_w)) bits * bb) ∧ (∃ e : Nat, bb = 2 ^ e) ∧ (bb ≤ 2 ^ 31) ∧ (-(2 ^ 32) ≤ tt) ∧ (tt ≤ 2 ^ 32) ∧ True := ⟨_, rfl⟩
      refine ⟨Wi _, ⟨_, by rw [h3]; exact ⟨_, _, rfl, rfl, rfl, (by first | exact Ow.hv0 (by assumption) (by assumption) | exact ⟨_, by assumption⟩ | omega), (by first | exact Ow.hv0 (by assumption) (by assumption) | exact ⟨_, by assumption⟩ | omega), (by first | exact Ow.hv0 (by assumption) (by assumption) | exact ⟨_, by assumption⟩ | omega), (by first | exact Ow.hv0 (by assumption) (by assumption) | exact ⟨_, by assumption⟩ | omega), (by first | exact Ow.hv0 (by assumption) (by assumption) | exact ⟨_, by assumption⟩ | omega), trivial⟩⟩, ?_⟩
      intro m σ2 Hn_2 h5
      rw [h3] at h5
      obtain ⟨tt, bb, rfl, rfl, rfl, h6, h7, h8, h9, h10, _⟩ := h5
      refine ⟨_, rfl, ?_⟩
      refine ⟨_, _, rfl, rfl, ?_⟩
      refine ⟨_, rfl, ?_⟩
      refine Ow.ifd (fun h11 => ?_) (fun h11 => ?_)
      · refine ⟨_, rfl, ?_⟩
        refine ⟨_, _, rfl, rfl, (by walk_at "o2"), fun r h_r h0_r h1_r => ?_⟩
        refine ⟨rfl, ?_⟩
        refine ⟨_, rfl, ?_⟩
        refine Ow.ifeqi (fun h12 => ?_) (fun h12 => ?_)
        · refine ⟨fun σ3 H3 => ∃ m2, m2 < bb.toNat ∧ Wi _ m2 σ3 H3, fun _ _ z => z, ?_⟩
          refine ⟨_, rfl, ?_⟩
          refine ⟨_, _, rfl, rfl, (by walk_at "o2"), fun top_2 h_top_2 => ?_⟩
          refine ⟨_, rfl, ?_⟩
          refine ⟨_, _, rfl, rfl, (by walk_at "o2"), fun bottom_2 h_bottom_2 => ?_⟩
          refine ⟨_, ?_, by rw [h3]; exact ⟨top_2, bottom_2, rfl, rfl, rfl, (by first | exact (Ow.half_step (by assumption) (by assumption) (by omega) (by omega) (by assumption) (by assumption)).1 | exact (Ow.half_step (by assumption) (by assumption) (by omega) (by omega) (by assumption) (by assumption)).2 | omega), (by first | exact (Ow.half_step (by assumption) (by assumption) (by omega) (by omega) (by assumption) (by assumption)).1 | exact (Ow.half_step (by assumption) (by assumption) (by omega) (by omega) (by assumption) (by assumption)).2 | omega), (by first | exact (Ow.half_step (by assumption) (by assumption) (by omega) (by omega) (by assumption) (by assumption)).1 | exact (Ow.half_step (by assumption) (by assumption) (by omega) (by omega) (by assumption) (by assumption)).2 | omega), (by first | exact (Ow.half_step (by assumption) (by assumption) (by omega) (by omega) (by assumption) (by assumption)).1 | exact (Ow.half_step (by assumption) (by assumption) (by omega) (by omega) (by assumption) (by assumption)).2 | omega), (by first | exact (Ow.half_step (by assumption) (by assumption) (by omega) (by omega) (by assumption) (by assumption)).1 | exact (Ow.half_step (by assumption) (by assumption) (by omega) (by omega) (by assumption) (by assumption)).2 | omega), trivial⟩⟩
          first | (walk_at "o2")
        · refine ⟨_, rfl, ?_⟩
          refine ⟨_, rfl, ?_⟩
          refine ⟨by show 2 ≤ sizeLine; decide, fun p h_p => ?_⟩
          have he := Ow.half_end (t := tt) (b := bb) (by assumption) (fun z => by omega)
          exact kont tt bb (by first | assumption | exact he.1 | exact he.2 | omega) (by first | assumption | exact he.1 | exact he.2 | omega) (by first | assumption | exact he.1 | exact he.2 | omega) (by first | assumption | exact he.1 | exact he.2 | omega) (by first | assumption | exact he.1 | exact he.2 | omega) (by first | assumption | exact he.1 | exact he.2 | omega) _ _ (h2.trans (Ow.same_new h_p)) (Same.free h2 h_p) upd_same
      · refine iteF ?_
        refine ⟨_, rfl, ?_⟩
        refine ⟨_, rfl, ?_⟩
        refine ⟨by show 2 ≤ sizeLine; decide, fun p_2 h_p_2 => ?_⟩
        have he := Ow.half_end (t := tt) (b := bb) (by assumption) (fun z => by omega)
        exact kont tt bb (by first | assumption | exact he.1 | exact he.2 | omega) (by first | assumption | exact he.1 | exact he.2 | omega) (by first | assumption | exact he.1 | exact he.2 | omega) (by first | assumption | exact he.1 | exact he.2 | omega) (by first | assumption | exact he.1 | exact he.2 | omega) (by first | assumption | exact he.1 | exact he.2 | omega) _ _ (h2.trans (Ow.same_new h_p_2)) (Same.free h2 h_p_2) upd_same
    · replace c0 : H self = some (.ins T.k_Signed.C dx_self [(("width" : Str), V.int (kd_w_2)), (("point" : Str), V.int (0))]) := c0
      have kr := Ow.kc_rng (kd := ((Ow.Tf_Kind.signed kd_w_2))) (b := bits) c1 c2 c3
      have hpp := Ow.pow2_mono (a := (Ow.kp ((Ow.Tf_Kind.signed kd_w_2))).toNat) (b := 31) (by simp only [Ow.KOk] at c1; simp only [Ow.kp]; omega)
      simp only [Ow.kp] at hpp
      have hk := Ow.krng c1
      have hl := Ow.kle c1
      have hg := Ow.kge c1
      simp only [Ow.KOk] at c1
      simp only [Ow.kw] at hk
      simp only [Ow.kle1] at hl
      simp only [Ow.kge1] at hg
      refine ⟨_, rfl, ?_⟩
      refine ⟨_, _, _, _, _, rfl, .inr (.inl ⟨rfl, rfl⟩), c0, rfl, ?_⟩
      refine ⟨_, rfl, ?_⟩
      refine ⟨_, _, ((Ow.Tf_Kind.signed kd_w_2)), _, rfl, c0, (by walk_at "o2"), (by walk_at "o2"), (by walk_at "o2"), fun top_3 h13 Hn_3 h14 => ?_⟩
      refine ⟨_, rfl, ?_⟩
      refine ⟨_, _, _, _, V.int (0), rfl, (h14 _ _ c0), T.k_Signed.cl, T.na_Signed_point, rfl, ?_⟩
      refine ⟨_, rfl, rfl, (by walk_at "o2"), fun bottom_3 h_bottom_3 h0_bottom_3 => ?_⟩
      obtain ⟨Wi_2, h15⟩ : ∃ W : Hp → Nat → L2.St → Hp → Prop, W = fun H0 m σ2 H2 => ∃ (tt : Int) (bb : Int), m = bb.toNat ∧ σ2 = [some (.ref self), some (.int (bits)), some (.int (tt)), some (.int (bb))] ∧ H2 = H0 ∧ (tt * 2 ^ (Ow.kp ((Ow.Tf_Kind.signed kd_w_2))).toNat = Ow.kc ((Ow.Tf_Kind.signed kd_w_2)) bits * bb) ∧ (∃ e : Nat, bb = 2 ^ e) ∧ (bb ≤ 2 ^ 31) ∧ (-(2 ^ 32) ≤ tt) ∧ (tt ≤ 2 ^ 32) ∧ True := ⟨_, rfl⟩
      refine ⟨Wi_2 _, ⟨_, by rw [h15]; exact ⟨_, _, rfl, rfl, rfl, (by first | exact Ow.hv0 (by assumption) (by assumption) | exact ⟨_, by assumption⟩ | omega), (by first | exact Ow.hv0 (by assumption) (by assumption) | exact ⟨_, by assumption⟩ | omega), (by first | exact Ow.hv0 (by assumption) (by assumption) | exact ⟨_, by assumption⟩ | omega), (by first | exact Ow.hv0 (by assumption) (by assumption) | exact ⟨_, by assumption⟩ | omega), (by first | exact Ow.hv0 (by assumption) (by assumption) | exact ⟨_, by assumption⟩ | omega), trivial⟩⟩, ?_⟩
      intro m σ2 Hn_4 h17
      rw [h15] at h17
      obtain ⟨tt_2, bb_2, rfl, rfl, rfl, h18, h19, h20, h21, h22, _⟩ := h17
      refine ⟨_, rfl, ?_⟩
      refine ⟨_, _, rfl, rfl, ?_⟩
      refine ⟨_, rfl, ?_⟩
      refine Ow.ifd (fun h23 => ?_) (fun h23 => ?_)
      · refine ⟨_, rfl, ?_⟩
        refine ⟨_, _, rfl, rfl, (by walk_at "o2"), fun r_2 h_r_2 h0_r_2 h1_r_2 => ?_⟩
        refine ⟨rfl, ?_⟩
        refine ⟨_, rfl, ?_⟩
        refine Ow.ifeqi (fun h24 => ?_) (fun h24 => ?_)
        · refine ⟨fun σ3 H3 => ∃ m2, m2 < bb_2.toNat ∧ Wi_2 _ m2 σ3 H3, fun _ _ z => z, ?_⟩
          refine ⟨_, rfl, ?_⟩
          refine ⟨_, _, rfl, rfl, (by walk_at "o2"), fun top_4 h_top_4 => ?_⟩
          refine ⟨_, rfl, ?_⟩
          refine ⟨_, _, rfl, rfl, (by walk_at "o2"), fun bottom_4 h_bottom_4 => ?_⟩
          refine ⟨_, ?_, by rw [h15]; exact ⟨top_4, bottom_4, rfl, rfl, rfl, (by first | exact (Ow.half_step (by assumption) (by assumption) (by omega) (by omega) (by assumption) (by assumption)).1 | exact (Ow.half_step (by assumption) (by assumption) (by omega) (by omega) (by assumption) (by assumption)).2 | omega), (by first | exact (Ow.half_step (by assumption) (by assumption) (by omega) (by omega) (by assumption) (by assumption)).1 | exact (Ow.half_step (by assumption) (by assumption) (by omega) (by omega) (by assumption) (by assumption)).2 | omega), (by first | exact (Ow.half_step (by assumption) (by assumption) (by omega) (by omega) (by assumption) (by assumption)).1 | exact (Ow.half_step (by assumption) (by assumption) (by omega) (by omega) (by assumption) (by assumption)).2 | omega), (by first | exact (Ow.half_step (by assumption) (by assumption) (by omega) (by omega) (by assumption) (by assumption)).1 | exact (Ow.half_step (by assumption) (by assumption) (by omega) (by omega) (by assumption) (by assumption)).2 | omega), (by first | exact (Ow.half_step (by assumption) (by assumption) (by omega) (by omega) (by assumption) (by assumption)).1 | exact (Ow.half_step (by assumption) (by assumption) (by omega) (by omega) (by assumption) (by assumption)).2 | omega), trivial⟩⟩
          first | (walk_at "o2")
        · refine ⟨_, rfl, ?_⟩
          refine ⟨_, rfl, ?_⟩
          refine ⟨by show 2 ≤ sizeLine; decide, fun p_3 h_p_3 => ?_⟩
          have he := Ow.half_end (t := tt_2) (b := bb_2) (by assumption) (fun z => by omega)
          exact kont tt_2 bb_2 (by first | assumption | exact he.1 | exact he.2 | omega) (by first | assumption | exact he.1 | exact he.2 | omega) (by first | assumption | exact he.1 | exact he.2 | omega) (by first | assumption | exact he.1 | exact he.2 | omega) (by first | assumption | exact he.1 | exact he.2 | omega) (by first | assumption | exact he.1 | exact he.2 | omega) _ _ (h14.trans (Ow.same_new h_p_3)) (Same.free h14 h_p_3) upd_same
      · refine iteF ?_
        refine ⟨_, rfl, ?_⟩
        refine ⟨_, rfl, ?_⟩
        refine ⟨by show 2 ≤ sizeLine; decide, fun p_4 h_p_4 => ?_⟩
        have he := Ow.half_end (t := tt_2) (b := bb_2) (by assumption) (fun z => by omega)
        exact kont tt_2 bb_2 (by first | assumption | exact he.1 | exact he.2 | omega) (by first | assumption | exact he.1 | exact he.2 | omega) (by first | assumption | exact he.1 | exact he.2 | omega) (by first | assumption | exact he.1 | exact he.2 | omega) (by first | assumption | exact he.1 | exact he.2 | omega) (by first | assumption | exact he.1 | exact he.2 | omega) _ _ (h14.trans (Ow.same_new h_p_4)) (Same.free h14 h_p_4) upd_same
    · replace c0 : H self = some (.ins T.k_Pointed.C dx_self [(("width" : Str), V.int (kd_w_3)), (("point" : Str), V.int (kd_p))]) := c0
      have kr := Ow.kc_rng (kd := ((Ow.Tf_Kind.point kd_w_3 kd_p))) (b := bits) c1 c2 c3
      have hpp := Ow.pow2_mono (a := (Ow.kp ((Ow.Tf_Kind.point kd_w_3 kd_p))).toNat) (b := 31) (by simp only [Ow.KOk] at c1; simp only [Ow.kp]; omega)
      simp only [Ow.kp] at hpp
      have hk := Ow.krng c1
      have hl := Ow.kle c1
      have hg := Ow.kge c1
      simp only [Ow.KOk] at c1
      simp only [Ow.kw] at hk
      simp only [Ow.kle1] at hl
      simp only [Ow.kge1] at hg
      refine ⟨_, rfl, ?_⟩
      refine ⟨_, _, _, _, _, rfl, .inr (.inr (⟨rfl, rfl⟩)), c0, rfl, ?_⟩
      refine ⟨_, rfl, ?_⟩
      refine ⟨_, _, ((Ow.Tf_Kind.point kd_w_3 kd_p)), _, rfl, c0, (by walk_at "o2"), (by walk_at "o2"), (by walk_at "o2"), fun top_5 h25 Hn_5 h26 => ?_⟩
      refine ⟨_, rfl, ?_⟩
      refine ⟨_, _, _, _, V.int (kd_p), rfl, (h26 _ _ c0), T.k_Pointed.cl, T.na_Pointed_point, rfl, ?_⟩
      refine ⟨_, rfl, rfl, (by walk_at "o2"), fun bottom_5 h_bottom_5 h0_bottom_5 => ?_⟩
      obtain ⟨Wi_3, h27⟩ : ∃ W : Hp → Nat → L2.St → Hp → Prop, W = fun H0 m σ2 H2 => ∃ (tt : Int) (bb : Int), m = bb.toNat ∧ σ2 = [some (.ref self), some (.int (bits)), some (.int (tt)), some (.int (bb))] ∧ H2 = H0 ∧ (tt * 2 ^ (Ow.kp ((Ow.Tf_Kind.point kd_w_3 kd_p))).toNat = Ow.kc ((Ow.Tf_Kind.point kd_w_3 kd_p)) bits * bb) ∧ (∃ e : Nat, bb = 2 ^ e) ∧ (bb ≤ 2 ^ 31) ∧ (-(2 ^ 32) ≤ tt) ∧ (tt ≤ 2 ^ 32) ∧ True := ⟨_, rfl⟩
      refine ⟨Wi_3 _, ⟨_, by rw [h27]; exact ⟨_, _, rfl, rfl, rfl, (by first | exact Ow.hv0 (by assumption) (by assumption) | exact ⟨_, by assumption⟩ | omega), (by first | exact Ow.hv0 (by assumption) (by assumption) | exact ⟨_, by assumption⟩ | omega), (by first | exact Ow.hv0 (by assumption) (by assumption) | exact ⟨_, by assumption⟩ | omega), (by first | exact Ow.hv0 (by assumption) (by assumption) | exact ⟨_, by assumption⟩ | omega), (by first | exact Ow.hv0 (by assumption) (by assumption) | exact ⟨_, by assumption⟩ | omega), trivial⟩⟩, ?_⟩
      intro m σ2 Hn_6 h29
      rw [h27] at h29
      obtain ⟨tt_3, bb_3, rfl, rfl, rfl, h30, h31, h32, h33, h34, _⟩ := h29
      refine ⟨_, rfl, ?_⟩
      refine ⟨_, _, rfl, rfl, ?_⟩
      refine ⟨_, rfl, ?_⟩
      refine Ow.ifd (fun h35 => ?_) (fun h35 => ?_)
      · refine ⟨_, rfl, ?_⟩
        refine ⟨_, _, rfl, rfl, (by walk_at "o2"), fun r_3 h_r_3 h0_r_3 h1_r_3 => ?_⟩
        refine ⟨rfl, ?_⟩
        refine ⟨_, rfl, ?_⟩
        refine Ow.ifeqi (fun h36 => ?_) (fun h36 => ?_)
        · refine ⟨fun σ3 H3 => ∃ m2, m2 < bb_3.toNat ∧ Wi_3 _ m2 σ3 H3, fun _ _ z => z, ?_⟩
          refine ⟨_, rfl, ?_⟩
          refine ⟨_, _, rfl, rfl, (by walk_at "o2"), fun top_6 h_top_6 => ?_⟩
          refine ⟨_, rfl, ?_⟩
          refine ⟨_, _, rfl, rfl, (by walk_at "o2"), fun bottom_6 h_bottom_6 => ?_⟩
          refine ⟨_, ?_, by rw [h27]; exact ⟨top_6, bottom_6, rfl, rfl, rfl, (by first | exact (Ow.half_step (by assumption) (by assumption) (by omega) (by omega) (by assumption) (by assumption)).1 | exact (Ow.half_step (by assumption) (by assumption) (by omega) (by omega) (by assumption) (by assumption)).2 | omega), (by first | exact (Ow.half_step (by assumption) (by assumption) (by omega) (by omega) (by assumption) (by assumption)).1 | exact (Ow.half_step (by assumption) (by assumption) (by omega) (by omega) (by assumption) (by assumption)).2 | omega), (by first | exact (Ow.half_step (by assumption) (by assumption) (by omega) (by omega) (by assumption) (by assumption)).1 | exact (Ow.half_step (by assumption) (by assumption) (by omega) (by omega) (by assumption) (by assumption)).2 | omega), (by first | exact (Ow.half_step (by assumption) (by assumption) (by omega) (by omega) (by assumption) (by assumption)).1 | exact (Ow.half_step (by assumption) (by assumption) (by omega) (by omega) (by assumption) (by assumption)).2 | omega), (by first | exact (Ow.half_step (by assumption) (by assumption) (by omega) (by omega) (by assumption) (by assumption)).1 | exact (Ow.half_step (by assumption) (by assumption) (by omega) (by omega) (by assumption) (by assumption)).2 | omega), trivial⟩⟩
          first | (walk_at "o2")
        · refine ⟨_, rfl, ?_⟩
          refine ⟨_, rfl, ?_⟩
          refine ⟨by show 2 ≤ sizeLine; decide, fun p_5 h_p_5 => ?_⟩
          have he := Ow.half_end (t := tt_3) (b := bb_3) (by assumption) (fun z => by omega)
          exact kont tt_3 bb_3 (by first | assumption | exact he.1 | exact he.2 | omega) (by first | assumption | exact he.1 | exact he.2 | omega) (by first | assumption | exact he.1 | exact he.2 | omega) (by first | assumption | exact he.1 | exact he.2 | omega) (by first | assumption | exact he.1 | exact he.2 | omega) (by first | assumption | exact he.1 | exact he.2 | omega) _ _ (h26.trans (Ow.same_new h_p_5)) (Same.free h26 h_p_5) upd_same
      · refine iteF ?_
        refine ⟨_, rfl, ?_⟩
        refine ⟨_, rfl, ?_⟩
        refine ⟨by show 2 ≤ sizeLine; decide, fun p_6 h_p_6 => ?_⟩
        have he := Ow.half_end (t := tt_3) (b := bb_3) (by assumption) (fun z => by omega)
        exact kont tt_3 bb_3 (by first | assumption | exact he.1 | exact he.2 | omega) (by first | assumption | exact he.1 | exact he.2 | omega) (by first | assumption | exact he.1 | exact he.2 | omega) (by first | assumption | exact he.1 | exact he.2 | omega) (by first | assumption | exact he.1 | exact he.2 | omega) (by first | assumption | exact he.1 | exact he.2 | omega) _ _ (h26.trans (Ow.same_new h_p_6)) (Same.free h26 h_p_6) upd_same
theorem ok_Kind_is_count (T : Tx K mg) : FnOk P w K mg base CX0 2 T.d_Kind_is_count.f T.d_Kind_is_count.fd ["self", "number"] (sp_Kind_is_count T) := by
  refine T.d_Kind_is_count.F.ok sc_Kind_is_count (fun vs H Q E h => ?_) (fun cdv A outer s H vs Q E hr h => ?_)
  · obtain ⟨self, number, kd, dx_self, rfl, _⟩ := h
    rfl
  · obtain ⟨self, number, kd, dx_self, rfl, c0, c1, kont⟩ := h
    refine ⟨_, (pss_one (ps_ret (pe_chain op_le op_le (Ow.pe_methA0 (R := fun C sp => (C = T.k_Plain.C ∧ sp = sp_Plain_least T) ∨ (C = T.k_Signed.C ∧ sp = sp_Kind_least T) ∨ (C = T.k_Pointed.C ∧ sp = sp_Kind_least T)) (pv 0) (Ow.mal_or (Ow.mal_one ⟨_, _, _, _, T.k_Plain.cl, T.mt_Plain_least, Ow.ok_Plain_least T, hr.mono (by decide : 1 ≤ 1), T.d_Plain_least.b⟩) (Ow.mal_or (Ow.mal_one ⟨_, _, _, _, T.k_Signed.cl, T.mt_Signed_least, Ow.ok_Kind_least T, hr.mono (by decide : 1 ≤ 1), T.d_Kind_least.b⟩) (Ow.mal_one ⟨_, _, _, _, T.k_Pointed.cl, T.mt_Pointed_least, Ow.ok_Kind_least T, hr.mono (by decide : 1 ≤ 1), T.d_Kind_least.b⟩))) pass0) (pv 1) (Ow.pe_methA0 (R := fun C sp => (C = T.k_Plain.C ∧ sp = sp_Plain_greatest T) ∨ (C = T.k_Signed.C ∧ sp = sp_Kind_greatest T) ∨ (C = T.k_Pointed.C ∧ sp = sp_Kind_greatest T)) (pv 0) (Ow.mal_or (Ow.mal_one ⟨_, _, _, _, T.k_Plain.cl, T.mt_Plain_greatest, Ow.ok_Plain_greatest T, hr.mono (by decide : 1 ≤ 1), T.d_Plain_greatest.b⟩) (Ow.mal_or (Ow.mal_one ⟨_, _, _, _, T.k_Signed.cl, T.mt_Signed_greatest, Ow.ok_Kind_greatest T, hr.mono (by decide : 1 ≤ 1), T.d_Kind_greatest.b⟩) (Ow.mal_one ⟨_, _, _, _, T.k_Pointed.cl, T.mt_Pointed_greatest, Ow.ok_Kind_greatest T, hr.mono (by decide : 1 ≤ 1), T.d_Kind_greatest.b⟩))) pass0)))), ?_⟩
    rcases kd with ⟨kd_w⟩ | ⟨kd_w_2⟩ | ⟨kd_w_3, kd_p⟩
    · replace c0 : H self = some (.ins T.k_Plain.C dx_self [(("width" : Str), V.int (kd_w)), (("point" : Str), V.int (0))]) := c0
      have hk := Ow.krng c1
      have hl := Ow.kle c1
      have hg := Ow.kge c1
      simp only [Ow.KOk] at c1
      simp only [Ow.kw] at hk
      simp only [Ow.kle1] at hl
      simp only [Ow.kge1] at hg
      refine ⟨_, rfl, ?_⟩
      refine ⟨_, _, _, _, _, rfl, .inl ⟨rfl, rfl⟩, c0, rfl, ?_⟩
      refine ⟨_, _, _, _, rfl, c0, (by walk_at "o2"), (by walk_at "o2"), ?_⟩
      refine ⟨_, rfl, ?_⟩
      refine ⟨_, _, rfl, rfl, ?_⟩
      refine ⟨_, rfl, ?_⟩
      refine Ow.ifd (fun h1 => ?_) (fun h1 => ?_)
      · refine ⟨_, rfl, ?_⟩
        refine ⟨_, _, _, _, _, rfl, .inl ⟨rfl, rfl⟩, c0, rfl, ?_⟩
        refine ⟨_, _, _, _, rfl, c0, (by walk_at "o2"), (by walk_at "o2"), ?_⟩
        refine ⟨_, _, rfl, rfl, ?_⟩
        exact kont (decide (number ≤ (2 ^ kd_w.toNat - 1))) (by first | assumption | omega | (simp only [Bool.not_eq_true', Bool.false_eq_true, false_iff, true_iff, iff_false, iff_true, decide_eq_true_eq, decide_eq_false_iff_not, V.int.injEq]; omega) | exact Ow.nbi (by assumption) | (subst_vars; exact Ow.nbe (Ow.knr_ne (by omega) hl hg)) | omega) _ (Same.refl _)
      · exact kont false (by first | assumption | omega | (simp only [Bool.not_eq_true', Bool.false_eq_true, false_iff, true_iff, iff_false, iff_true, decide_eq_true_eq, decide_eq_false_iff_not, V.int.injEq]; omega) | exact Ow.nbi (by assumption) | (subst_vars; exact Ow.nbe (Ow.knr_ne (by omega) hl hg)) | omega) _ (Same.refl _)
    · replace c0 : H self = some (.ins T.k_Signed.C dx_self [(("width" : Str), V.int (kd_w_2)), (("point" : Str), V.int (0))]) := c0
      have hk := Ow.krng c1
      have hl := Ow.kle c1
      have hg := Ow.kge c1
      simp only [Ow.KOk] at c1
      simp only [Ow.kw] at hk
      simp only [Ow.kle1] at hl
      simp only [Ow.kge1] at hg
      refine ⟨_, rfl, ?_⟩
      refine ⟨_, _, _, _, _, rfl, .inr (.inl ⟨rfl, rfl⟩), c0, rfl, ?_⟩
      refine ⟨_, _, _, Ow.F_Kind.Signed, _, rfl, c0, (by walk_at "o2"), (by walk_at "o2"), ?_⟩
      refine ⟨_, rfl, ?_⟩
      refine ⟨_, _, rfl, rfl, ?_⟩
      refine ⟨_, rfl, ?_⟩
      refine Ow.ifd (fun h2 => ?_) (fun h2 => ?_)
      · refine ⟨_, rfl, ?_⟩
        refine ⟨_, _, _, _, _, rfl, .inr (.inl ⟨rfl, rfl⟩), c0, rfl, ?_⟩
        refine ⟨_, _, _, Ow.F_Kind.Signed, _, rfl, c0, (by walk_at "o2"), (by walk_at "o2"), ?_⟩
        refine ⟨_, _, rfl, rfl, ?_⟩
        exact kont (decide (number ≤ (2 ^ (kd_w_2 - 1).toNat - 1))) (by first | assumption | omega | (simp only [Bool.not_eq_true', Bool.false_eq_true, false_iff, true_iff, iff_false, iff_true, decide_eq_true_eq, decide_eq_false_iff_not, V.int.injEq]; omega) | exact Ow.nbi (by assumption) | (subst_vars; exact Ow.nbe (Ow.knr_ne (by omega) hl hg)) | omega) _ (Same.refl _)
      · exact kont false (by first | assumption | omega | (simp only [Bool.not_eq_true', Bool.false_eq_true, false_iff, true_iff, iff_false, iff_true, decide_eq_true_eq, decide_eq_false_iff_not, V.int.injEq]; omega) | exact Ow.nbi (by assumption) | (subst_vars; exact Ow.nbe (Ow.knr_ne (by omega) hl hg)) | omega) _ (Same.refl _)
    · replace c0 : H self = some (.ins T.k_Pointed.C dx_self [(("width" : Str), V.int (kd_w_3)), (("point" : Str), V.int (kd_p))]) := c0
      have hk := Ow.krng c1
      have hl := Ow.kle c1
      have hg := Ow.kge c1
      simp only [Ow.KOk] at c1
      simp only [Ow.kw] at hk
      simp only [Ow.kle1] at hl
      simp only [Ow.kge1] at hg
      refine ⟨_, rfl, ?_⟩
      refine ⟨_, _, _, _, _, rfl, .inr (.inr (⟨rfl, rfl⟩)), c0, rfl, ?_⟩
      refine ⟨_, _, _, Ow.F_Kind.Pointed, _, rfl, c0, (by walk_at "o2"), (by walk_at "o2"), ?_⟩
      refine ⟨_, rfl, ?_⟩
      refine ⟨_, _, rfl, rfl, ?_⟩
      refine ⟨_, rfl, ?_⟩
      refine Ow.ifd (fun h3 => ?_) (fun h3 => ?_)
      · refine ⟨_, rfl, ?_⟩
        refine ⟨_, _, _, _, _, rfl, .inr (.inr (⟨rfl, rfl⟩)), c0, rfl, ?_⟩
        refine ⟨_, _, _, Ow.F_Kind.Pointed, _, rfl, c0, (by walk_at "o2"), (by walk_at "o2"), ?_⟩
        refine ⟨_, _, rfl, rfl, ?_⟩
        exact kont (decide (number ≤ (2 ^ (kd_w_3 - 1).toNat - 1))) (by first | assumption | omega | (simp only [Bool.not_eq_true', Bool.false_eq_true, false_iff, true_iff, iff_false, iff_true, decide_eq_true_eq, decide_eq_false_iff_not, V.int.injEq]; omega) | exact Ow.nbi (by assumption) | (subst_vars; exact Ow.nbe (Ow.knr_ne (by omega) hl hg)) | omega) _ (Same.refl _)
      · exact kont false (by first | assumption | omega | (simp only [Bool.not_eq_true', Bool.false_eq_true, false_iff, true_iff, iff_false, iff_true, decide_eq_true_eq, decide_eq_false_iff_not, V.int.injEq]; omega) | exact Ow.nbi (by assumption) | (subst_vars; exact Ow.nbe (Ow.knr_ne (by omega) hl hg)) | omega) _ (Same.refl _)
theorem ok_Kind_bits_of (T : Tx K mg) : FnOk P w K mg base CX0 3 T.d_Kind_bits_of.f T.d_Kind_bits_of.fd ["self", "count"] (sp_Kind_bits_of T) := by
  refine T.d_Kind_bits_of.F.ok sc_Kind_bits_of (fun vs H Q E h => ?_) (fun cdv A outer s H vs Q E hr h => ?_)
  · obtain ⟨self, count, kd, dx_self, rfl, _⟩ := h
    rfl
  · obtain ⟨self, count, kd, dx_self, rfl, c0, c1, c2, c3, kont⟩ := h
    refine ⟨_, (pss_cons (ps_if (PW.pt (pw_or (pt_not (pt_val (pe_call (Ow.ok_is_whole T) (hr.mono (by decide : 1 ≤ 2)) (by rfl) T.d_is_whole.m T.d_is_whole.F.kp T.d_is_whole.b .nil pass0 (pa_cons (pv 1) pa_nil)))) (pw_or1 (pt_not (pt_val (Ow.pe_methA (R := fun C sp => (C = T.k_Plain.C ∧ sp = sp_Kind_is_count T) ∨ (C = T.k_Signed.C ∧ sp = sp_Kind_is_count T) ∨ (C = T.k_Pointed.C ∧ sp = sp_Kind_is_count T)) (pv 0) (Ow.mal_or (Ow.mal_one ⟨_, _, _, _, T.k_Plain.cl, T.mt_Plain_is_count, Ow.ok_Kind_is_count T, hr.mono (by decide : 2 ≤ 2), T.d_Kind_is_count.b⟩) (Ow.mal_or (Ow.mal_one ⟨_, _, _, _, T.k_Signed.cl, T.mt_Signed_is_count, Ow.ok_Kind_is_count T, hr.mono (by decide : 2 ≤ 2), T.d_Kind_is_count.b⟩) (Ow.mal_one ⟨_, _, _, _, T.k_Pointed.cl, T.mt_Pointed_is_count, Ow.ok_Kind_is_count T, hr.mono (by decide : 2 ≤ 2), T.d_Kind_is_count.b⟩))) pass0 (pa_cons (pv 1) pa_nil))))))) (pss_one ps_never) pss_nil)
        (pss_one (ps_ret (pe_op Ow.op_mask (pv 1) (pe_op op_sub (pe_op Ow.op_shl1 pe_int (pe_fld (pv 0) rfl)) pe_int))))), ?_⟩
    rcases kd with ⟨kd_w⟩ | ⟨kd_w_2⟩ | ⟨kd_w_3, kd_p⟩
    · replace c0 : H self = some (.ins T.k_Plain.C dx_self [(("width" : Str), V.int (kd_w)), (("point" : Str), V.int (0))]) := c0
      have hk := Ow.krng c1
      have hl := Ow.kle c1
      have hg := Ow.kge c1
      simp only [Ow.KOk] at c1
      simp only [Ow.kw] at hk
      simp only [Ow.kle1] at hl
      simp only [Ow.kge1] at hg
      refine ⟨_, rfl, ?_⟩
      refine ⟨_, rfl, ?_⟩
      refine ⟨_, rfl, ?_⟩
      refine iteF ?_
      refine ⟨_, rfl, ?_⟩
      refine ⟨_, _, _, _, _, rfl, .inl ⟨rfl, rfl⟩, c0, rfl, ?_⟩
      refine ⟨_, rfl, ?_⟩
      refine ⟨_, _, ((Ow.Tf_Kind.plain kd_w)), _, rfl, c0, (by walk_at "o2"), fun t h1 Hn h2 => ?_⟩
      refine ⟨_, rfl, ?_⟩
      refine Ow.ifnb (fun h3 => ?_) (fun h3 => ?_)
      · exact ((by first | omega | exact absurd ((by assumption : _ = true ↔ Ow.kl _ ≤ count ∧ count ≤ Ow.kg _).mpr ⟨by omega, by omega⟩) (by first | exact Bool.false_ne_true | (rw [h3]; exact Bool.false_ne_true) | exact h3)) : False).elim
      · refine ⟨_, rfl, ?_⟩
        refine ⟨_, rfl, ?_⟩
        refine ⟨_, _, _, _, V.int (kd_w), rfl, (h2 _ _ c0), T.k_Plain.cl, T.na_Plain_width, rfl, ?_⟩
        refine ⟨_, rfl, rfl, (by walk_at "o2"), fun B h_B h0_B => ?_⟩
        refine ⟨_, _, rfl, rfl, ?_⟩
        refine ⟨_, _, kd_w.toNat, rfl, rfl, (by walk_at "o2"), fun r h_r h0_r h1_r => ?_⟩
        refine Ow.eqi (b := count % 2 ^ (Ow.kw ((Ow.Tf_Kind.plain kd_w))).toNat) (by walk_at "o2") ?_
        exact kont _ h2
    · replace c0 : H self = some (.ins T.k_Signed.C dx_self [(("width" : Str), V.int (kd_w_2)), (("point" : Str), V.int (0))]) := c0
      have hk := Ow.krng c1
      have hl := Ow.kle c1
      have hg := Ow.kge c1
      simp only [Ow.KOk] at c1
      simp only [Ow.kw] at hk
      simp only [Ow.kle1] at hl
      simp only [Ow.kge1] at hg
      refine ⟨_, rfl, ?_⟩
      refine ⟨_, rfl, ?_⟩
      refine ⟨_, rfl, ?_⟩
      refine iteF ?_
      refine ⟨_, rfl, ?_⟩
      refine ⟨_, _, _, _, _, rfl, .inr (.inl ⟨rfl, rfl⟩), c0, rfl, ?_⟩
      refine ⟨_, rfl, ?_⟩
      refine ⟨_, _, ((Ow.Tf_Kind.signed kd_w_2)), _, rfl, c0, (by walk_at "o2"), fun t_2 h4 Hn_2 h5 => ?_⟩
      refine ⟨_, rfl, ?_⟩
      refine Ow.ifnb (fun h6 => ?_) (fun h6 => ?_)
      · exact ((by first | omega | exact absurd ((by assumption : _ = true ↔ Ow.kl _ ≤ count ∧ count ≤ Ow.kg _).mpr ⟨by omega, by omega⟩) (by first | exact Bool.false_ne_true | (rw [h6]; exact Bool.false_ne_true) | exact h6)) : False).elim
      · refine ⟨_, rfl, ?_⟩
        refine ⟨_, rfl, ?_⟩
        refine ⟨_, _, _, _, V.int (kd_w_2), rfl, (h5 _ _ c0), T.k_Signed.cl, T.na_Signed_width, rfl, ?_⟩
        refine ⟨_, rfl, rfl, (by walk_at "o2"), fun B_2 h_B_2 h0_B_2 => ?_⟩
        refine ⟨_, _, rfl, rfl, ?_⟩
        refine ⟨_, _, kd_w_2.toNat, rfl, rfl, (by walk_at "o2"), fun r_2 h_r_2 h0_r_2 h1_r_2 => ?_⟩
        refine Ow.eqi (b := count % 2 ^ (Ow.kw ((Ow.Tf_Kind.signed kd_w_2))).toNat) (by walk_at "o2") ?_
        exact kont _ h5
    · replace c0 : H self = some (.ins T.k_Pointed.C dx_self [(("width" : Str), V.int (kd_w_3)), (("point" : Str), V.int (kd_p))]) := c0
      have hk := Ow.krng c1
      have hl := Ow.kle c1
      have hg := Ow.kge c1
      simp only [Ow.KOk] at c1
      simp only [Ow.kw] at hk
      simp only [Ow.kle1] at hl
      simp only [Ow.kge1] at hg
      refine ⟨_, rfl, ?_⟩
      refine ⟨_, rfl, ?_⟩
      refine ⟨_, rfl, ?_⟩
      refine iteF ?_
      refine ⟨_, rfl, ?_⟩
      refine ⟨_, _, _, _, _, rfl, .inr (.inr (⟨rfl, rfl⟩)), c0, rfl, ?_⟩
      refine ⟨_, rfl, ?_⟩
      refine ⟨_, _, ((Ow.Tf_Kind.point kd_w_3 kd_p)), _, rfl, c0, (by walk_at "o2"), fun t_3 h7 Hn_3 h8 => ?_⟩
      refine ⟨_, rfl, ?_⟩
      refine Ow.ifnb (fun h9 => ?_) (fun h9 => ?_)
      · exact ((by first | omega | exact absurd ((by assumption : _ = true ↔ Ow.kl _ ≤ count ∧ count ≤ Ow.kg _).mpr ⟨by omega, by omega⟩) (by first | exact Bool.false_ne_true | (rw [h9]; exact Bool.false_ne_true) | exact h9)) : False).elim
      · refine ⟨_, rfl, ?_⟩
        refine ⟨_, rfl, ?_⟩
        refine ⟨_, _, _, _, V.int (kd_w_3), rfl, (h8 _ _ c0), T.k_Pointed.cl, T.na_Pointed_width, rfl, ?_⟩
        refine ⟨_, rfl, rfl, (by walk_at "o2"), fun B_3 h_B_3 h0_B_3 => ?_⟩
        refine ⟨_, _, rfl, rfl, ?_⟩
        refine ⟨_, _, kd_w_3.toNat, rfl, rfl, (by walk_at "o2"), fun r_3 h_r_3 h0_r_3 h1_r_3 => ?_⟩
        refine Ow.eqi (b := count % 2 ^ (Ow.kw ((Ow.Tf_Kind.point kd_w_3 kd_p))).toNat) (by walk_at "o2") ?_
        exact kont _ h8
theorem ok_l_word_right (T : Tx K mg) : FnOk P w K mg base CX0 5 T.d_l_word_right.f T.d_l_word_right.fd ["_law_kind_here", "_law_spec_here", "_law_word"] (sp_l_word_right T) := by
  refine T.d_l_word_right.F.ok sc_l_word_right (fun vs H Q E h => ?_) (fun cdv A outer s H vs Q E hr h => ?_)
  · obtain ⟨kind, spec, word, kd, dx_kind, rfl, _⟩ := h
    rfl
  · obtain ⟨kind, spec, word, kd, dx_kind, rfl, c0, c1, c2, c3, c4, kont⟩ := h
    refine ⟨_, (pss_cons (ps_set (i := 3) sc_l_word_right.nd rfl (Or.inl rfl) (pv 2))
        (pss_cons (ps_if (pt_cmpR op_gt (pv 2) (pe_ix ix_tup (pe_call (Ow.ok_l_ends T) (hr.mono (by decide : 1 ≤ 4)) (by rfl) T.d_l_ends.m T.d_l_ends.F.kp T.d_l_ends.b .nil pass0 (pa_cons (pv 1) pa_nil)) pe_int (fun _ _ => rfl)) (nomark _)) (pss_one (ps_set (i := 3) sc_l_word_right.nd rfl (Or.inl rfl) (Ow.pe_nmi (pe_op op_sub (pv 2) (pe_op Ow.op_shl1 pe_int (pe_ix ix_tup (pv 1) pe_int (fun _ _ => rfl))))))) pss_nil)
        (pss_cons (ps_for PassesOwn.never rfl (pi_list (pe_lst (pa_cons (pe_tup (pa_cons (Ow.pe_methA (R := fun C sp => (C = T.k_Plain.C ∧ sp = sp_Kind_count_of T) ∨ (C = T.k_Signed.C ∧ sp = sp_Kind_count_of T) ∨ (C = T.k_Pointed.C ∧ sp = sp_Kind_count_of T)) (pv 0) (Ow.mal_or (Ow.mal_one ⟨_, _, _, _, T.k_Plain.cl, T.mt_Plain_count_of, Ow.ok_Kind_count_of T, hr.mono (by decide : 3 ≤ 4), T.d_Kind_count_of.b⟩) (Ow.mal_or (Ow.mal_one ⟨_, _, _, _, T.k_Signed.cl, T.mt_Signed_count_of, Ow.ok_Kind_count_of T, hr.mono (by decide : 3 ≤ 4), T.d_Kind_count_of.b⟩) (Ow.mal_one ⟨_, _, _, _, T.k_Pointed.cl, T.mt_Pointed_count_of, Ow.ok_Kind_count_of T, hr.mono (by decide : 3 ≤ 4), T.d_Kind_count_of.b⟩))) pass0 (pa_cons (pv 2) pa_nil)) (pa_cons (pv 3) pa_nil))) (pa_cons (pe_tup (pa_cons (Ow.pe_methA (R := fun C sp => (C = T.k_Plain.C ∧ sp = sp_Kind_bits_of T) ∨ (C = T.k_Signed.C ∧ sp = sp_Kind_bits_of T) ∨ (C = T.k_Pointed.C ∧ sp = sp_Kind_bits_of T)) (pv 0) (Ow.mal_or (Ow.mal_one ⟨_, _, _, _, T.k_Plain.cl, T.mt_Plain_bits_of, Ow.ok_Kind_bits_of T, hr.mono (by decide : 3 ≤ 4), T.d_Kind_bits_of.b⟩) (Ow.mal_or (Ow.mal_one ⟨_, _, _, _, T.k_Signed.cl, T.mt_Signed_bits_of, Ow.ok_Kind_bits_of T, hr.mono (by decide : 3 ≤ 4), T.d_Kind_bits_of.b⟩) (Ow.mal_one ⟨_, _, _, _, T.k_Pointed.cl, T.mt_Pointed_bits_of, Ow.ok_Kind_bits_of T, hr.mono (by decide : 3 ≤ 4), T.d_Kind_bits_of.b⟩))) pass0 (pa_cons (pv 3) pa_nil)) (pa_cons (pv 2) pa_nil))) pa_nil)))) (pg_tup rfl (pgs_cons (pg_name (i := 4) sc_l_word_right.nd rfl (Or.inl rfl)) (pgs_cons (pg_name (i := 5) sc_l_word_right.nd rfl (Or.inl rfl)) pgs_nil))) (pss_one (ps_if (PW.pt (pw_or (pt_not (pt_val (pe_call (Ow.ok_l_whole T) (hr.mono (by decide : 1 ≤ 4)) (by rfl) T.d_l_whole.m T.d_l_whole.F.kp T.d_l_whole.b .nil pass0 (pa_cons (pv 4) pa_nil)))) (pw_or1 (pt_cmpR op_ne (pv 4) (pv 5) (nomark _))))) (pss_one (ps_ret pe_bl)) pss_nil)))
        (pss_one (ps_ret (pe_call (Ow.ok_l_value_right T) (hr.mono (by decide : 2 ≤ 4)) (by rfl) T.d_l_value_right.m T.d_l_value_right.F.kp T.d_l_value_right.b .nil pass0 (pa_cons (Ow.pe_methA (R := fun C sp => (C = T.k_Plain.C ∧ sp = sp_Kind_value_of T) ∨ (C = T.k_Signed.C ∧ sp = sp_Kind_value_of T) ∨ (C = T.k_Pointed.C ∧ sp = sp_Kind_value_of T)) (pv 0) (Ow.mal_or (Ow.mal_one ⟨_, _, _, _, T.k_Plain.cl, T.mt_Plain_value_of, Ow.ok_Kind_value_of T, hr.mono (by decide : 4 ≤ 4), T.d_Kind_value_of.b⟩) (Ow.mal_or (Ow.mal_one ⟨_, _, _, _, T.k_Signed.cl, T.mt_Signed_value_of, Ow.ok_Kind_value_of T, hr.mono (by decide : 4 ≤ 4), T.d_Kind_value_of.b⟩) (Ow.mal_one ⟨_, _, _, _, T.k_Pointed.cl, T.mt_Pointed_value_of, Ow.ok_Kind_value_of T, hr.mono (by decide : 4 ≤ 4), T.d_Kind_value_of.b⟩))) pass0 (pa_cons (pv 2) pa_nil)) (pa_cons (pv 3) (pa_cons (pe_ix ix_tup (pv 1) pe_int (fun _ _ => rfl)) pa_nil))))))))), ?_⟩
    rcases kd with ⟨kd_w⟩ | ⟨kd_w_2⟩ | ⟨kd_w_3, kd_p⟩
    · replace c0 : H kind = some (.ins T.k_Plain.C dx_kind [(("width" : Str), V.int (kd_w)), (("point" : Str), V.int (0))]) := c0
      replace c1 : H spec = some (.tup [.str ("plain"), .int (kd_w), .int (0)]) := c1
      have kr := Ow.kc_rng (kd := ((Ow.Tf_Kind.plain kd_w))) (b := word) c2 c3 c4
      have hk := Ow.krng c2
      have hl := Ow.kle c2
      have hg := Ow.kge c2
      simp only [Ow.KOk] at c2
      simp only [Ow.kw] at hk
      simp only [Ow.kle1] at hl
      simp only [Ow.kge1] at hg
      refine ⟨_, rfl, ?_⟩
      refine ⟨_, rfl, ?_⟩
      refine ⟨_, rfl, ?_⟩
      refine ⟨_, ((Ow.Tf_Kind.plain kd_w)), rfl, c1, (by walk_at "o2"), fun lo hi h1 h2 p Hn h3 h4 h5 => ?_⟩
      refine ⟨_, _, _, _, rfl, rfl, (SqT.of h5), (by first | rfl | decide), ?_⟩
      refine ⟨_, _, rfl, rfl, ?_⟩
      refine ⟨_, rfl, ?_⟩
      refine Ow.ifd (fun h6 => ?_) (fun h6 => ?_)
      · refine ⟨_, rfl, ?_⟩
        refine ⟨_, rfl, ?_⟩
        refine ⟨_, _, _, _, rfl, rfl, (SqT.of (h3 _ _ c1)), (by first | rfl | decide), ?_⟩
        refine ⟨_, rfl, rfl, (by walk_at "o2"), fun B h_B h0_B => ?_⟩
        refine ⟨_, _, rfl, rfl, ?_⟩
        refine ⟨_, rfl, fun l_count h_l_count => ?_⟩
        have kcx : l_count = Ow.kc ((Ow.Tf_Kind.plain kd_w)) word := by first | (rw [Ow.kc1 (kd := ((Ow.Tf_Kind.plain kd_w))) (b := word) (by omega)]; simp only [Ow.kw]; omega) | (rw [Ow.kc0 (kd := ((Ow.Tf_Kind.plain kd_w))) (by omega)])
        have kcm : l_count % 2 ^ (Ow.kw ((Ow.Tf_Kind.plain kd_w))).toNat = word := Eq.trans (congrArg (fun z => z % 2 ^ (Ow.kw ((Ow.Tf_Kind.plain kd_w))).toNat) kcx) kr.2.2.2.2
        refine ⟨_, rfl, ?_⟩
        refine ⟨_, _, _, _, _, rfl, .inl ⟨rfl, rfl⟩, (h3 _ _ c0), rfl, ?_⟩
        refine ⟨_, rfl, ?_⟩
        refine ⟨_, _, ((Ow.Tf_Kind.plain kd_w)), _, rfl, (h3 _ _ c0), (by walk_at "o2"), (by walk_at "o2"), (by walk_at "o2"), fun t h7 Hn_2 h8 => ?_⟩
        refine ⟨_, rfl, ?_⟩
        refine ⟨by show 2 ≤ sizeLine; decide, fun p_2 h_p_2 => ?_⟩
        refine ⟨_, rfl, ?_⟩
        refine ⟨_, _, _, _, _, rfl, .inl ⟨rfl, rfl⟩, (Ow.at_new h_p_2 (h8 _ _ (h3 _ _ c0))), rfl, ?_⟩
        refine ⟨_, rfl, ?_⟩
        refine ⟨_, _, ((Ow.Tf_Kind.plain kd_w)), _, rfl, (Ow.at_new h_p_2 (h8 _ _ (h3 _ _ c0))), (by walk_at "o2"), (by walk_at "o2"), (by walk_at "o2"), fun Hn_3 h9 => ?_⟩
        refine ⟨_, rfl, ?_⟩
        refine ⟨by show 2 ≤ sizeLine; decide, fun p_3 h_p_3 => ?_⟩
        refine ⟨by show 2 ≤ sizeLine; decide, fun p_4 h_p_4 => ?_⟩
        refine ⟨_, rfl, ⟨_, (SqL.of upd_same)⟩, ?_⟩
        refine Ow.un_start (K := K) (a := p_4) (xs := [.ref p_2, .ref p_3]) ?_
        refine ⟨(SqL.of upd_same), ?_⟩
        refine ⟨_, _, rfl, (SqT.of (Ow.at_new h_p_4 (Ow.at_new h_p_3 (h9 _ _ upd_same)))), rfl, ?_⟩
        refine ⟨_, _, rfl, ?_⟩
        refine ⟨_, _, rfl, ?_⟩
        refine ⟨rfl, ?_⟩
        refine ⟨_, rfl, ?_⟩
        refine ⟨_, rfl, ?_⟩
        refine ⟨_, rfl, ?_⟩
        refine iteF ?_
        refine ⟨_, rfl, ?_⟩
        refine ⟨_, rfl, ?_⟩
        refine ⟨rfl, ?_⟩
        refine ⟨_, rfl, ?_⟩
        refine Ow.ifnei (fun h10 => ?_) (fun h10 => ?_)
        · exact ((by walk_at "o2") : False).elim
        · refine ⟨(SqL.of upd_same), ?_⟩
          refine ⟨_, _, rfl, (SqT.of (Ow.at_new h_p_4 upd_same)), rfl, ?_⟩
          refine ⟨_, _, rfl, ?_⟩
          refine ⟨_, _, rfl, ?_⟩
          refine ⟨rfl, ?_⟩
          refine ⟨_, rfl, ?_⟩
          refine ⟨_, rfl, ?_⟩
          refine ⟨_, rfl, ?_⟩
          refine iteF ?_
          refine ⟨_, rfl, ?_⟩
          refine ⟨_, rfl, ?_⟩
          refine ⟨rfl, ?_⟩
          refine ⟨_, rfl, ?_⟩
          refine Ow.ifnei (fun h11 => ?_) (fun h11 => ?_)
          · exact ((by walk_at "o2") : False).elim
          · refine ⟨(SqL.of upd_same), ?_⟩
            refine ⟨_, rfl, ?_⟩
            refine ⟨_, _, _, _, _, rfl, .inl ⟨rfl, rfl⟩, (Ow.at_new h_p_4 (Ow.at_new h_p_3 (h9 _ _ (Ow.at_new h_p_2 (h8 _ _ (h3 _ _ c0)))))), rfl, ?_⟩
            refine ⟨_, rfl, ?_⟩
            refine ⟨_, _, ((Ow.Tf_Kind.plain kd_w)), _, rfl, (Ow.at_new h_p_4 (Ow.at_new h_p_3 (h9 _ _ (Ow.at_new h_p_2 (h8 _ _ (h3 _ _ c0)))))), (by walk_at "o2"), (by walk_at "o2"), (by walk_at "o2"), fun t_2 b h12 h13 h14 h15 h16 h17 p_5 Hn_4 h18 h19 h20 => ?_⟩
            refine ⟨_, rfl, ?_⟩
            refine ⟨_, rfl, ?_⟩
            refine ⟨_, _, _, _, rfl, rfl, (SqT.of (h18 _ _ (Ow.at_new h_p_4 (Ow.at_new h_p_3 (h9 _ _ (Ow.at_new h_p_2 (h8 _ _ (h3 _ _ c1)))))))), (by first | rfl | decide), ?_⟩
            refine ⟨_, _, _, _, _, rfl, h20, (by first | with_reducible assumption | omega | (rw [kcx]; assumption)), (by first | with_reducible assumption | omega | (rw [kcx]; assumption)), (by first | with_reducible assumption | omega | (rw [kcx]; assumption)), (by first | with_reducible assumption | omega | (rw [kcx]; assumption)), (by first | with_reducible assumption | omega | (rw [kcx]; assumption)), (by first | with_reducible assumption | omega | (rw [kcx]; assumption)), (by first | with_reducible assumption | omega | (rw [kcx]; assumption)), (by first | with_reducible assumption | omega | (rw [kcx]; assumption)), (by first | with_reducible assumption | omega | (rw [kcx]; assumption)), (by first | with_reducible assumption | omega | (rw [kcx]; assumption)), fun Hn_5 h21 => ?_⟩
            exact kont _ (((((((h3.trans h8).trans (Ow.same_new h_p_2)).trans h9).trans (Ow.same_new h_p_3)).trans (Ow.same_new h_p_4)).trans h18).trans h21)
      · have kcx : word = Ow.kc ((Ow.Tf_Kind.plain kd_w)) word := by first | (rw [Ow.kc1 (kd := ((Ow.Tf_Kind.plain kd_w))) (b := word) (by omega)]; simp only [Ow.kw]; omega) | (rw [Ow.kc0 (kd := ((Ow.Tf_Kind.plain kd_w))) (by omega)])
        have kcm : word % 2 ^ (Ow.kw ((Ow.Tf_Kind.plain kd_w))).toNat = word := Eq.trans (congrArg (fun z => z % 2 ^ (Ow.kw ((Ow.Tf_Kind.plain kd_w))).toNat) kcx) kr.2.2.2.2
        refine ⟨_, rfl, ?_⟩
        refine ⟨_, _, _, _, _, rfl, .inl ⟨rfl, rfl⟩, (h3 _ _ c0), rfl, ?_⟩
        refine ⟨_, rfl, ?_⟩
        refine ⟨_, _, ((Ow.Tf_Kind.plain kd_w)), _, rfl, (h3 _ _ c0), (by walk_at "o2"), (by walk_at "o2"), (by walk_at "o2"), fun t_3 h22 Hn_6 h23 => ?_⟩
        refine ⟨_, rfl, ?_⟩
        refine ⟨by show 2 ≤ sizeLine; decide, fun p_6 h_p_6 => ?_⟩
        refine ⟨_, rfl, ?_⟩
        refine ⟨_, _, _, _, _, rfl, .inl ⟨rfl, rfl⟩, (Ow.at_new h_p_6 (h23 _ _ (h3 _ _ c0))), rfl, ?_⟩
        refine ⟨_, rfl, ?_⟩
        refine ⟨_, _, ((Ow.Tf_Kind.plain kd_w)), _, rfl, (Ow.at_new h_p_6 (h23 _ _ (h3 _ _ c0))), (by walk_at "o2"), (by walk_at "o2"), (by walk_at "o2"), fun Hn_7 h24 => ?_⟩
        refine ⟨_, rfl, ?_⟩
        refine ⟨by show 2 ≤ sizeLine; decide, fun p_7 h_p_7 => ?_⟩
        refine ⟨by show 2 ≤ sizeLine; decide, fun p_8 h_p_8 => ?_⟩
        refine ⟨_, rfl, ⟨_, (SqL.of upd_same)⟩, ?_⟩
        refine Ow.un_start (K := K) (a := p_8) (xs := [.ref p_6, .ref p_7]) ?_
        refine ⟨(SqL.of upd_same), ?_⟩
        refine ⟨_, _, rfl, (SqT.of (Ow.at_new h_p_8 (Ow.at_new h_p_7 (h24 _ _ upd_same)))), rfl, ?_⟩
        refine ⟨_, _, rfl, ?_⟩
        refine ⟨_, _, rfl, ?_⟩
        refine ⟨rfl, ?_⟩
        refine ⟨_, rfl, ?_⟩
        refine ⟨_, rfl, ?_⟩
        refine ⟨_, rfl, ?_⟩
        refine iteF ?_
        refine ⟨_, rfl, ?_⟩
        refine ⟨_, rfl, ?_⟩
        refine ⟨rfl, ?_⟩
        refine ⟨_, rfl, ?_⟩
        refine Ow.ifnei (fun h25 => ?_) (fun h25 => ?_)
        · exact ((by walk_at "o2") : False).elim
        · refine ⟨(SqL.of upd_same), ?_⟩
          refine ⟨_, _, rfl, (SqT.of (Ow.at_new h_p_8 upd_same)), rfl, ?_⟩
          refine ⟨_, _, rfl, ?_⟩
          refine ⟨_, _, rfl, ?_⟩
          refine ⟨rfl, ?_⟩
          refine ⟨_, rfl, ?_⟩
          refine ⟨_, rfl, ?_⟩
          refine ⟨_, rfl, ?_⟩
          refine iteF ?_
          refine ⟨_, rfl, ?_⟩
          refine ⟨_, rfl, ?_⟩
          refine ⟨rfl, ?_⟩
          refine ⟨_, rfl, ?_⟩
          refine Ow.ifnei (fun h26 => ?_) (fun h26 => ?_)
          · exact ((by walk_at "o2") : False).elim
          · refine ⟨(SqL.of upd_same), ?_⟩
            refine ⟨_, rfl, ?_⟩
            refine ⟨_, _, _, _, _, rfl, .inl ⟨rfl, rfl⟩, (Ow.at_new h_p_8 (Ow.at_new h_p_7 (h24 _ _ (Ow.at_new h_p_6 (h23 _ _ (h3 _ _ c0)))))), rfl, ?_⟩
            refine ⟨_, rfl, ?_⟩
            refine ⟨_, _, ((Ow.Tf_Kind.plain kd_w)), _, rfl, (Ow.at_new h_p_8 (Ow.at_new h_p_7 (h24 _ _ (Ow.at_new h_p_6 (h23 _ _ (h3 _ _ c0)))))), (by walk_at "o2"), (by walk_at "o2"), (by walk_at "o2"), fun t_4 b_2 h27 h28 h29 h30 h31 h32 p_9 Hn_8 h33 h34 h35 => ?_⟩
            refine ⟨_, rfl, ?_⟩
            refine ⟨_, rfl, ?_⟩
            refine ⟨_, _, _, _, rfl, rfl, (SqT.of (h33 _ _ (Ow.at_new h_p_8 (Ow.at_new h_p_7 (h24 _ _ (Ow.at_new h_p_6 (h23 _ _ (h3 _ _ c1)))))))), (by first | rfl | decide), ?_⟩
            refine ⟨_, _, _, _, _, rfl, h35, (by first | with_reducible assumption | omega | (rw [kcx]; assumption)), (by first | with_reducible assumption | omega | (rw [kcx]; assumption)), (by first | with_reducible assumption | omega | (rw [kcx]; assumption)), (by first | with_reducible assumption | omega | (rw [kcx]; assumption)), (by first | with_reducible assumption | omega | (rw [kcx]; assumption)), (by first | with_reducible assumption | omega | (rw [kcx]; assumption)), (by first | with_reducible assumption | omega | (rw [kcx]; assumption)), (by first | with_reducible assumption | omega | (rw [kcx]; assumption)), (by first | with_reducible assumption | omega | (rw [kcx]; assumption)), (by first | with_reducible assumption | omega | (rw [kcx]; assumption)), fun Hn_9 h36 => ?_⟩
            exact kont _ (((((((h3.trans h23).trans (Ow.same_new h_p_6)).trans h24).trans (Ow.same_new h_p_7)).trans (Ow.same_new h_p_8)).trans h33).trans h36)
    · replace c0 : H kind = some (.ins T.k_Signed.C dx_kind [(("width" : Str), V.int (kd_w_2)), (("point" : Str), V.int (0))]) := c0
      replace c1 : H spec = some (.tup [.str ("signed"), .int (kd_w_2), .int (0)]) := c1
      have kr := Ow.kc_rng (kd := ((Ow.Tf_Kind.signed kd_w_2))) (b := word) c2 c3 c4
      have hk := Ow.krng c2
      have hl := Ow.kle c2
      have hg := Ow.kge c2
      simp only [Ow.KOk] at c2
      simp only [Ow.kw] at hk
      simp only [Ow.kle1] at hl
      simp only [Ow.kge1] at hg
      refine ⟨_, rfl, ?_⟩
      refine ⟨_, rfl, ?_⟩
      refine ⟨_, rfl, ?_⟩
      refine ⟨_, ((Ow.Tf_Kind.signed kd_w_2)), rfl, c1, (by walk_at "o2"), fun lo_2 hi_2 h37 h38 p_10 Hn_10 h39 h40 h41 => ?_⟩
      refine ⟨_, _, _, _, rfl, rfl, (SqT.of h41), (by first | rfl | decide), ?_⟩
      refine ⟨_, _, rfl, rfl, ?_⟩
      refine ⟨_, rfl, ?_⟩
      refine Ow.ifd (fun h42 => ?_) (fun h42 => ?_)
      · refine ⟨_, rfl, ?_⟩
        refine ⟨_, rfl, ?_⟩
        refine ⟨_, _, _, _, rfl, rfl, (SqT.of (h39 _ _ c1)), (by first | rfl | decide), ?_⟩
        refine ⟨_, rfl, rfl, (by walk_at "o2"), fun B_2 h_B_2 h0_B_2 => ?_⟩
        refine ⟨_, _, rfl, rfl, ?_⟩
        refine ⟨_, rfl, fun l_count_2 h_l_count_2 => ?_⟩
        have kcx : l_count_2 = Ow.kc ((Ow.Tf_Kind.signed kd_w_2)) word := by first | (rw [Ow.kc1 (kd := ((Ow.Tf_Kind.signed kd_w_2))) (b := word) (by omega)]; simp only [Ow.kw]; omega) | (rw [Ow.kc0 (kd := ((Ow.Tf_Kind.signed kd_w_2))) (by omega)])
        have kcm : l_count_2 % 2 ^ (Ow.kw ((Ow.Tf_Kind.signed kd_w_2))).toNat = word := Eq.trans (congrArg (fun z => z % 2 ^ (Ow.kw ((Ow.Tf_Kind.signed kd_w_2))).toNat) kcx) kr.2.2.2.2
        refine ⟨_, rfl, ?_⟩
        refine ⟨_, _, _, _, _, rfl, .inr (.inl ⟨rfl, rfl⟩), (h39 _ _ c0), rfl, ?_⟩
        refine ⟨_, rfl, ?_⟩
        refine ⟨_, _, ((Ow.Tf_Kind.signed kd_w_2)), _, rfl, (h39 _ _ c0), (by walk_at "o2"), (by walk_at "o2"), (by walk_at "o2"), fun t_5 h43 Hn_11 h44 => ?_⟩
        refine ⟨_, rfl, ?_⟩
        refine ⟨by show 2 ≤ sizeLine; decide, fun p_11 h_p_11 => ?_⟩
        refine ⟨_, rfl, ?_⟩
        refine ⟨_, _, _, _, _, rfl, .inr (.inl ⟨rfl, rfl⟩), (Ow.at_new h_p_11 (h44 _ _ (h39 _ _ c0))), rfl, ?_⟩
        refine ⟨_, rfl, ?_⟩
        refine ⟨_, _, ((Ow.Tf_Kind.signed kd_w_2)), _, rfl, (Ow.at_new h_p_11 (h44 _ _ (h39 _ _ c0))), (by walk_at "o2"), (by walk_at "o2"), (by walk_at "o2"), fun Hn_12 h45 => ?_⟩
        refine ⟨_, rfl, ?_⟩
        refine ⟨by show 2 ≤ sizeLine; decide, fun p_12 h_p_12 => ?_⟩
        refine ⟨by show 2 ≤ sizeLine; decide, fun p_13 h_p_13 => ?_⟩
        refine ⟨_, rfl, ⟨_, (SqL.of upd_same)⟩, ?_⟩
        refine Ow.un_start (K := K) (a := p_13) (xs := [.ref p_11, .ref p_12]) ?_
        refine ⟨(SqL.of upd_same), ?_⟩
        refine ⟨_, _, rfl, (SqT.of (Ow.at_new h_p_13 (Ow.at_new h_p_12 (h45 _ _ upd_same)))), rfl, ?_⟩
        refine ⟨_, _, rfl, ?_⟩
        refine ⟨_, _, rfl, ?_⟩
        refine ⟨rfl, ?_⟩
        refine ⟨_, rfl, ?_⟩
        refine ⟨_, rfl, ?_⟩
        refine ⟨_, rfl, ?_⟩
        refine iteF ?_
        refine ⟨_, rfl, ?_⟩
        refine ⟨_, rfl, ?_⟩
        refine ⟨rfl, ?_⟩
        refine ⟨_, rfl, ?_⟩
        refine Ow.ifnei (fun h46 => ?_) (fun h46 => ?_)
        · exact ((by walk_at "o2") : False).elim
        · refine ⟨(SqL.of upd_same), ?_⟩
          refine ⟨_, _, rfl, (SqT.of (Ow.at_new h_p_13 upd_same)), rfl, ?_⟩
          refine ⟨_, _, rfl, ?_⟩
          refine ⟨_, _, rfl, ?_⟩
          refine ⟨rfl, ?_⟩
          refine ⟨_, rfl, ?_⟩
          refine ⟨_, rfl, ?_⟩
          refine ⟨_, rfl, ?_⟩
          refine iteF ?_
          refine ⟨_, rfl, ?_⟩
          refine ⟨_, rfl, ?_⟩
          refine ⟨rfl, ?_⟩
          refine ⟨_, rfl, ?_⟩
          refine Ow.ifnei (fun h47 => ?_) (fun h47 => ?_)
          · exact ((by walk_at "o2") : False).elim
          · refine ⟨(SqL.of upd_same), ?_⟩
            refine ⟨_, rfl, ?_⟩
            refine ⟨_, _, _, _, _, rfl, .inr (.inl ⟨rfl, rfl⟩), (Ow.at_new h_p_13 (Ow.at_new h_p_12 (h45 _ _ (Ow.at_new h_p_11 (h44 _ _ (h39 _ _ c0)))))), rfl, ?_⟩
            refine ⟨_, rfl, ?_⟩
            refine ⟨_, _, ((Ow.Tf_Kind.signed kd_w_2)), _, rfl, (Ow.at_new h_p_13 (Ow.at_new h_p_12 (h45 _ _ (Ow.at_new h_p_11 (h44 _ _ (h39 _ _ c0)))))), (by walk_at "o2"), (by walk_at "o2"), (by walk_at "o2"), fun t_6 b_3 h48 h49 h50 h51 h52 h53 p_14 Hn_13 h54 h55 h56 => ?_⟩
            refine ⟨_, rfl, ?_⟩
            refine ⟨_, rfl, ?_⟩
            refine ⟨_, _, _, _, rfl, rfl, (SqT.of (h54 _ _ (Ow.at_new h_p_13 (Ow.at_new h_p_12 (h45 _ _ (Ow.at_new h_p_11 (h44 _ _ (h39 _ _ c1)))))))), (by first | rfl | decide), ?_⟩
            refine ⟨_, _, _, _, _, rfl, h56, (by first | with_reducible assumption | omega | (rw [kcx]; assumption)), (by first | with_reducible assumption | omega | (rw [kcx]; assumption)), (by first | with_reducible assumption | omega | (rw [kcx]; assumption)), (by first | with_reducible assumption | omega | (rw [kcx]; assumption)), (by first | with_reducible assumption | omega | (rw [kcx]; assumption)), (by first | with_reducible assumption | omega | (rw [kcx]; assumption)), (by first | with_reducible assumption | omega | (rw [kcx]; assumption)), (by first | with_reducible assumption | omega | (rw [kcx]; assumption)), (by first | with_reducible assumption | omega | (rw [kcx]; assumption)), (by first | with_reducible assumption | omega | (rw [kcx]; assumption)), fun Hn_14 h57 => ?_⟩
            exact kont _ (((((((h39.trans h44).trans (Ow.same_new h_p_11)).trans h45).trans (Ow.same_new h_p_12)).trans (Ow.same_new h_p_13)).trans h54).trans h57)
      · have kcx : word = Ow.kc ((Ow.Tf_Kind.signed kd_w_2)) word := by first | (rw [Ow.kc1 (kd := ((Ow.Tf_Kind.signed kd_w_2))) (b := word) (by omega)]; simp only [Ow.kw]; omega) | (rw [Ow.kc0 (kd := ((Ow.Tf_Kind.signed kd_w_2))) (by omega)])
        have kcm : word % 2 ^ (Ow.kw ((Ow.Tf_Kind.signed kd_w_2))).toNat = word := Eq.trans (congrArg (fun z => z % 2 ^ (Ow.kw ((Ow.Tf_Kind.signed kd_w_2))).toNat) kcx) kr.2.2.2.2
        refine ⟨_, rfl, ?_⟩
        refine ⟨_, _, _, _, _, rfl, .inr (.inl ⟨rfl, rfl⟩), (h39 _ _ c0), rfl, ?_⟩
        refine ⟨_, rfl, ?_⟩
        refine ⟨_, _, ((Ow.Tf_Kind.signed kd_w_2)), _, rfl, (h39 _ _ c0), (by walk_at "o2"), (by walk_at "o2"), (by walk_at "o2"), fun t_7 h58 Hn_15 h59 => ?_⟩
        refine ⟨_, rfl, ?_⟩
        refine ⟨by show 2 ≤ sizeLine; decide, fun p_15 h_p_15 => ?_⟩
        refine ⟨_, rfl, ?_⟩
        refine ⟨_, _, _, _, _, rfl, .inr (.inl ⟨rfl, rfl⟩), (Ow.at_new h_p_15 (h59 _ _ (h39 _ _ c0))), rfl, ?_⟩
        refine ⟨_, rfl, ?_⟩
        refine ⟨_, _, ((Ow.Tf_Kind.signed kd_w_2)), _, rfl, (Ow.at_new h_p_15 (h59 _ _ (h39 _ _ c0))), (by walk_at "o2"), (by walk_at "o2"), (by walk_at "o2"), fun Hn_16 h60 => ?_⟩
        refine ⟨_, rfl, ?_⟩
        refine ⟨by show 2 ≤ sizeLine; decide, fun p_16 h_p_16 => ?_⟩
        refine ⟨by show 2 ≤ sizeLine; decide, fun p_17 h_p_17 => ?_⟩
        refine ⟨_, rfl, ⟨_, (SqL.of upd_same)⟩, ?_⟩
        refine Ow.un_start (K := K) (a := p_17) (xs := [.ref p_15, .ref p_16]) ?_
        refine ⟨(SqL.of upd_same), ?_⟩
        refine ⟨_, _, rfl, (SqT.of (Ow.at_new h_p_17 (Ow.at_new h_p_16 (h60 _ _ upd_same)))), rfl, ?_⟩
        refine ⟨_, _, rfl, ?_⟩
        refine ⟨_, _, rfl, ?_⟩
        refine ⟨rfl, ?_⟩
        refine ⟨_, rfl, ?_⟩
        refine ⟨_, rfl, ?_⟩
        refine ⟨_, rfl, ?_⟩
        refine iteF ?_
        refine ⟨_, rfl, ?_⟩
        refine ⟨_, rfl, ?_⟩
        refine ⟨rfl, ?_⟩
        refine ⟨_, rfl, ?_⟩
        refine Ow.ifnei (fun h61 => ?_) (fun h61 => ?_)
        · exact ((by walk_at "o2") : False).elim
        · refine ⟨(SqL.of upd_same), ?_⟩
          refine ⟨_, _, rfl, (SqT.of (Ow.at_new h_p_17 upd_same)), rfl, ?_⟩
          refine ⟨_, _, rfl, ?_⟩
          refine ⟨_, _, rfl, ?_⟩
          refine ⟨rfl, ?_⟩
          refine ⟨_, rfl, ?_⟩
          refine ⟨_, rfl, ?_⟩
          refine ⟨_, rfl, ?_⟩
          refine iteF ?_
          refine ⟨_, rfl, ?_⟩
          refine ⟨_, rfl, ?_⟩
          refine ⟨rfl, ?_⟩
          refine ⟨_, rfl, ?_⟩
          refine Ow.ifnei (fun h62 => ?_) (fun h62 => ?_)
          · exact ((by walk_at "o2") : False).elim
          · refine ⟨(SqL.of upd_same), ?_⟩
            refine ⟨_, rfl, ?_⟩
            refine ⟨_, _, _, _, _, rfl, .inr (.inl ⟨rfl, rfl⟩), (Ow.at_new h_p_17 (Ow.at_new h_p_16 (h60 _ _ (Ow.at_new h_p_15 (h59 _ _ (h39 _ _ c0)))))), rfl, ?_⟩
            refine ⟨_, rfl, ?_⟩
            refine ⟨_, _, ((Ow.Tf_Kind.signed kd_w_2)), _, rfl, (Ow.at_new h_p_17 (Ow.at_new h_p_16 (h60 _ _ (Ow.at_new h_p_15 (h59 _ _ (h39 _ _ c0)))))), (by walk_at "o2"), (by walk_at "o2"), (by walk_at "o2"), fun t_8 b_4 h63 h64 h65 h66 h67 h68 p_18 Hn_17 h69 h70 h71 => ?_⟩
            refine ⟨_, rfl, ?_⟩
            refine ⟨_, rfl, ?_⟩
            refine ⟨_, _, _, _, rfl, rfl, (SqT.of (h69 _ _ (Ow.at_new h_p_17 (Ow.at_new h_p_16 (h60 _ _ (Ow.at_new h_p_15 (h59 _ _ (h39 _ _ c1)))))))), (by first | rfl | decide), ?_⟩
            refine ⟨_, _, _, _, _, rfl, h71, (by first | with_reducible assumption | omega | (rw [kcx]; assumption)), (by first | with_reducible assumption | omega | (rw [kcx]; assumption)), (by first | with_reducible assumption | omega | (rw [kcx]; assumption)), (by first | with_reducible assumption | omega | (rw [kcx]; assumption)), (by first | with_reducible assumption | omega | (rw [kcx]; assumption)), (by first | with_reducible assumption | omega | (rw [kcx]; assumption)), (by first | with_reducible assumption | omega | (rw [kcx]; assumption)), (by first | with_reducible assumption | omega | (rw [kcx]; assumption)), (by first | with_reducible assumption | omega | (rw [kcx]; assumption)), (by first | with_reducible assumption | omega | (rw [kcx]; assumption)), fun Hn_18 h72 => ?_⟩
            exact kont _ (((((((h39.trans h59).trans (Ow.same_new h_p_15)).trans h60).trans (Ow.same_new h_p_16)).trans (Ow.same_new h_p_17)).trans h69).trans h72)
    · replace c0 : H kind = some (.ins T.k_Pointed.C dx_kind [(("width" : Str), V.int (kd_w_3)), (("point" : Str), V.int (kd_p))]) := c0
      replace c1 : H spec = some (.tup [.str ("point"), .int (kd_w_3), .int (kd_p)]) := c1
      have kr := Ow.kc_rng (kd := ((Ow.Tf_Kind.point kd_w_3 kd_p))) (b := word) c2 c3 c4
      have hk := Ow.krng c2
      have hl := Ow.kle c2
      have hg := Ow.kge c2
      simp only [Ow.KOk] at c2
      simp only [Ow.kw] at hk
      simp only [Ow.kle1] at hl
      simp only [Ow.kge1] at hg
      refine ⟨_, rfl, ?_⟩
      refine ⟨_, rfl, ?_⟩
      refine ⟨_, rfl, ?_⟩
      refine ⟨_, ((Ow.Tf_Kind.point kd_w_3 kd_p)), rfl, c1, (by walk_at "o2"), fun lo_3 hi_3 h73 h74 p_19 Hn_19 h75 h76 h77 => ?_⟩
      refine ⟨_, _, _, _, rfl, rfl, (SqT.of h77), (by first | rfl | decide), ?_⟩
      refine ⟨_, _, rfl, rfl, ?_⟩
      refine ⟨_, rfl, ?_⟩
      refine Ow.ifd (fun h78 => ?_) (fun h78 => ?_)
      · refine ⟨_, rfl, ?_⟩
        refine ⟨_, rfl, ?_⟩
        refine ⟨_, _, _, _, rfl, rfl, (SqT.of (h75 _ _ c1)), (by first | rfl | decide), ?_⟩
        refine ⟨_, rfl, rfl, (by walk_at "o2"), fun B_3 h_B_3 h0_B_3 => ?_⟩
        refine ⟨_, _, rfl, rfl, ?_⟩
        refine ⟨_, rfl, fun l_count_3 h_l_count_3 => ?_⟩
        have kcx : l_count_3 = Ow.kc ((Ow.Tf_Kind.point kd_w_3 kd_p)) word := by first | (rw [Ow.kc1 (kd := ((Ow.Tf_Kind.point kd_w_3 kd_p))) (b := word) (by omega)]; simp only [Ow.kw]; omega) | (rw [Ow.kc0 (kd := ((Ow.Tf_Kind.point kd_w_3 kd_p))) (by omega)])
        have kcm : l_count_3 % 2 ^ (Ow.kw ((Ow.Tf_Kind.point kd_w_3 kd_p))).toNat = word := Eq.trans (congrArg (fun z => z % 2 ^ (Ow.kw ((Ow.Tf_Kind.point kd_w_3 kd_p))).toNat) kcx) kr.2.2.2.2
        refine ⟨_, rfl, ?_⟩
        refine ⟨_, _, _, _, _, rfl, .inr (.inr (⟨rfl, rfl⟩)), (h75 _ _ c0), rfl, ?_⟩
        refine ⟨_, rfl, ?_⟩
        refine ⟨_, _, ((Ow.Tf_Kind.point kd_w_3 kd_p)), _, rfl, (h75 _ _ c0), (by walk_at "o2"), (by walk_at "o2"), (by walk_at "o2"), fun t_9 h79 Hn_20 h80 => ?_⟩
        refine ⟨_, rfl, ?_⟩
        refine ⟨by show 2 ≤ sizeLine; decide, fun p_20 h_p_20 => ?_⟩
        refine ⟨_, rfl, ?_⟩
        refine ⟨_, _, _, _, _, rfl, .inr (.inr (⟨rfl, rfl⟩)), (Ow.at_new h_p_20 (h80 _ _ (h75 _ _ c0))), rfl, ?_⟩
        refine ⟨_, rfl, ?_⟩
        refine ⟨_, _, ((Ow.Tf_Kind.point kd_w_3 kd_p)), _, rfl, (Ow.at_new h_p_20 (h80 _ _ (h75 _ _ c0))), (by walk_at "o2"), (by walk_at "o2"), (by walk_at "o2"), fun Hn_21 h81 => ?_⟩
        refine ⟨_, rfl, ?_⟩
        refine ⟨by show 2 ≤ sizeLine; decide, fun p_21 h_p_21 => ?_⟩
        refine ⟨by show 2 ≤ sizeLine; decide, fun p_22 h_p_22 => ?_⟩
        refine ⟨_, rfl, ⟨_, (SqL.of upd_same)⟩, ?_⟩
        refine Ow.un_start (K := K) (a := p_22) (xs := [.ref p_20, .ref p_21]) ?_
        refine ⟨(SqL.of upd_same), ?_⟩
        refine ⟨_, _, rfl, (SqT.of (Ow.at_new h_p_22 (Ow.at_new h_p_21 (h81 _ _ upd_same)))), rfl, ?_⟩
        refine ⟨_, _, rfl, ?_⟩
        refine ⟨_, _, rfl, ?_⟩
        refine ⟨rfl, ?_⟩
        refine ⟨_, rfl, ?_⟩
        refine ⟨_, rfl, ?_⟩
        refine ⟨_, rfl, ?_⟩
        refine iteF ?_
        refine ⟨_, rfl, ?_⟩
        refine ⟨_, rfl, ?_⟩
        refine ⟨rfl, ?_⟩
        refine ⟨_, rfl, ?_⟩
        refine Ow.ifnei (fun h82 => ?_) (fun h82 => ?_)
        · exact ((by walk_at "o2") : False).elim
        · refine ⟨(SqL.of upd_same), ?_⟩
          refine ⟨_, _, rfl, (SqT.of (Ow.at_new h_p_22 upd_same)), rfl, ?_⟩
          refine ⟨_, _, rfl, ?_⟩
          refine ⟨_, _, rfl, ?_⟩
          refine ⟨rfl, ?_⟩
          refine ⟨_, rfl, ?_⟩
          refine ⟨_, rfl, ?_⟩
          refine ⟨_, rfl, ?_⟩
          refine iteF ?_
          refine ⟨_, rfl, ?_⟩
          refine ⟨_, rfl, ?_⟩
          refine ⟨rfl, ?_⟩
          refine ⟨_, rfl, ?_⟩
          refine Ow.ifnei (fun h83 => ?_) (fun h83 => ?_)
          · exact ((by walk_at "o2") : False).elim
          · refine ⟨(SqL.of upd_same), ?_⟩
            refine ⟨_, rfl, ?_⟩
            refine ⟨_, _, _, _, _, rfl, .inr (.inr (⟨rfl, rfl⟩)), (Ow.at_new h_p_22 (Ow.at_new h_p_21 (h81 _ _ (Ow.at_new h_p_20 (h80 _ _ (h75 _ _ c0)))))), rfl, ?_⟩
            refine ⟨_, rfl, ?_⟩
            refine ⟨_, _, ((Ow.Tf_Kind.point kd_w_3 kd_p)), _, rfl, (Ow.at_new h_p_22 (Ow.at_new h_p_21 (h81 _ _ (Ow.at_new h_p_20 (h80 _ _ (h75 _ _ c0)))))), (by walk_at "o2"), (by walk_at "o2"), (by walk_at "o2"), fun t_10 b_5 h84 h85 h86 h87 h88 h89 p_23 Hn_22 h90 h91 h92 => ?_⟩
            refine ⟨_, rfl, ?_⟩
            refine ⟨_, rfl, ?_⟩
            refine ⟨_, _, _, _, rfl, rfl, (SqT.of (h90 _ _ (Ow.at_new h_p_22 (Ow.at_new h_p_21 (h81 _ _ (Ow.at_new h_p_20 (h80 _ _ (h75 _ _ c1)))))))), (by first | rfl | decide), ?_⟩
            refine ⟨_, _, _, _, _, rfl, h92, (by first | with_reducible assumption | omega | (rw [kcx]; assumption)), (by first | with_reducible assumption | omega | (rw [kcx]; assumption)), (by first | with_reducible assumption | omega | (rw [kcx]; assumption)), (by first | with_reducible assumption | omega | (rw [kcx]; assumption)), (by first | with_reducible assumption | omega | (rw [kcx]; assumption)), (by first | with_reducible assumption | omega | (rw [kcx]; assumption)), (by first | with_reducible assumption | omega | (rw [kcx]; assumption)), (by first | with_reducible assumption | omega | (rw [kcx]; assumption)), (by first | with_reducible assumption | omega | (rw [kcx]; assumption)), (by first | with_reducible assumption | omega | (rw [kcx]; assumption)), fun Hn_23 h93 => ?_⟩
            exact kont _ (((((((h75.trans h80).trans (Ow.same_new h_p_20)).trans h81).trans (Ow.same_new h_p_21)).trans (Ow.same_new h_p_22)).trans h90).trans h93)
      · have kcx : word = Ow.kc ((Ow.Tf_Kind.point kd_w_3 kd_p)) word := by first | (rw [Ow.kc1 (kd := ((Ow.Tf_Kind.point kd_w_3 kd_p))) (b := word) (by omega)]; simp only [Ow.kw]; omega) | (rw [Ow.kc0 (kd := ((Ow.Tf_Kind.point kd_w_3 kd_p))) (by omega)])
        have kcm : word % 2 ^ (Ow.kw ((Ow.Tf_Kind.point kd_w_3 kd_p))).toNat = word := Eq.trans (congrArg (fun z => z % 2 ^ (Ow.kw ((Ow.Tf_Kind.point kd_w_3 kd_p))).toNat) kcx) kr.2.2.2.2
        refine ⟨_, rfl, ?_⟩
        refine ⟨_, _, _, _, _, rfl, .inr (.inr (⟨rfl, rfl⟩)), (h75 _ _ c0), rfl, ?_⟩
        refine ⟨_, rfl, ?_⟩
        refine ⟨_, _, ((Ow.Tf_Kind.point kd_w_3 kd_p)), _, rfl, (h75 _ _ c0), (by walk_at "o2"), (by walk_at "o2"), (by walk_at "o2"), fun t_11 h94 Hn_24 h95 => ?_⟩
        refine ⟨_, rfl, ?_⟩
        refine ⟨by show 2 ≤ sizeLine; decide, fun p_24 h_p_24 => ?_⟩
        refine ⟨_, rfl, ?_⟩
        refine ⟨_, _, _, _, _, rfl, .inr (.inr (⟨rfl, rfl⟩)), (Ow.at_new h_p_24 (h95 _ _ (h75 _ _ c0))), rfl, ?_⟩
        refine ⟨_, rfl, ?_⟩
        refine ⟨_, _, ((Ow.Tf_Kind.point kd_w_3 kd_p)), _, rfl, (Ow.at_new h_p_24 (h95 _ _ (h75 _ _ c0))), (by walk_at "o2"), (by walk_at "o2"), (by walk_at "o2"), fun Hn_25 h96 => ?_⟩
        refine ⟨_, rfl, ?_⟩
        refine ⟨by show 2 ≤ sizeLine; decide, fun p_25 h_p_25 => ?_⟩
        refine ⟨by show 2 ≤ sizeLine; decide, fun p_26 h_p_26 => ?_⟩
        refine ⟨_, rfl, ⟨_, (SqL.of upd_same)⟩, ?_⟩
        refine Ow.un_start (K := K) (a := p_26) (xs := [.ref p_24, .ref p_25]) ?_
        refine ⟨(SqL.of upd_same), ?_⟩
        refine ⟨_, _, rfl, (SqT.of (Ow.at_new h_p_26 (Ow.at_new h_p_25 (h96 _ _ upd_same)))), rfl, ?_⟩
        refine ⟨_, _, rfl, ?_⟩
        refine ⟨_, _, rfl, ?_⟩
        refine ⟨rfl, ?_⟩
        refine ⟨_, rfl, ?_⟩
        refine ⟨_, rfl, ?_⟩
        refine ⟨_, rfl, ?_⟩
        refine iteF ?_
        refine ⟨_, rfl, ?_⟩
        refine ⟨_, rfl, ?_⟩
        refine ⟨rfl, ?_⟩
        refine ⟨_, rfl, ?_⟩
        refine Ow.ifnei (fun h97 => ?_) (fun h97 => ?_)
        · exact ((by walk_at "o2") : False).elim
        · refine ⟨(SqL.of upd_same), ?_⟩
          refine ⟨_, _, rfl, (SqT.of (Ow.at_new h_p_26 upd_same)), rfl, ?_⟩
          refine ⟨_, _, rfl, ?_⟩
          refine ⟨_, _, rfl, ?_⟩
          refine ⟨rfl, ?_⟩
          refine ⟨_, rfl, ?_⟩
          refine ⟨_, rfl, ?_⟩
          refine ⟨_, rfl, ?_⟩
          refine iteF ?_
          refine ⟨_, rfl, ?_⟩
          refine ⟨_, rfl, ?_⟩
          refine ⟨rfl, ?_⟩
          refine ⟨_, rfl, ?_⟩
          refine Ow.ifnei (fun h98 => ?_) (fun h98 => ?_)
          · exact ((by walk_at "o2") : False).elim
          · refine ⟨(SqL.of upd_same), ?_⟩
            refine ⟨_, rfl, ?_⟩
            refine ⟨_, _, _, _, _, rfl, .inr (.inr (⟨rfl, rfl⟩)), (Ow.at_new h_p_26 (Ow.at_new h_p_25 (h96 _ _ (Ow.at_new h_p_24 (h95 _ _ (h75 _ _ c0)))))), rfl, ?_⟩
            refine ⟨_, rfl, ?_⟩
            refine ⟨_, _, ((Ow.Tf_Kind.point kd_w_3 kd_p)), _, rfl, (Ow.at_new h_p_26 (Ow.at_new h_p_25 (h96 _ _ (Ow.at_new h_p_24 (h95 _ _ (h75 _ _ c0)))))), (by walk_at "o2"), (by walk_at "o2"), (by walk_at "o2"), fun t_12 b_6 h99 h100 h101 h102 h103 h104 p_27 Hn_26 h105 h106 h107 => ?_⟩
            refine ⟨_, rfl, ?_⟩
            refine ⟨_, rfl, ?_⟩
            refine ⟨_, _, _, _, rfl, rfl, (SqT.of (h105 _ _ (Ow.at_new h_p_26 (Ow.at_new h_p_25 (h96 _ _ (Ow.at_new h_p_24 (h95 _ _ (h75 _ _ c1)))))))), (by first | rfl | decide), ?_⟩
            refine ⟨_, _, _, _, _, rfl, h107, (by first | with_reducible assumption | omega | (rw [kcx]; assumption)), (by first | with_reducible assumption | omega | (rw [kcx]; assumption)), (by first | with_reducible assumption | omega | (rw [kcx]; assumption)), (by first | with_reducible assumption | omega | (rw [kcx]; assumption)), (by first | with_reducible assumption | omega | (rw [kcx]; assumption)), (by first | with_reducible assumption | omega | (rw [kcx]; assumption)), (by first | with_reducible assumption | omega | (rw [kcx]; assumption)), (by first | with_reducible assumption | omega | (rw [kcx]; assumption)), (by first | with_reducible assumption | omega | (rw [kcx]; assumption)), (by first | with_reducible assumption | omega | (rw [kcx]; assumption)), fun Hn_27 h108 => ?_⟩
            exact kont _ (((((((h75.trans h95).trans (Ow.same_new h_p_24)).trans h96).trans (Ow.same_new h_p_25)).trans (Ow.same_new h_p_26)).trans h105).trans h108)
theorem ok_same_kind (T : Tx K mg) : FnOk P w K mg base CX0 2 T.d_same_kind.f T.d_same_kind.fd ["one", "other"] (sp_same_kind T) := by
  refine T.d_same_kind.F.ok sc_same_kind (fun vs H Q E h => ?_) (fun cdv A outer s H vs Q E hr h => ?_)
  · obtain ⟨one, other, kd, ke, dx_one, dx_other, rfl, _⟩ := h
    rfl
  · obtain ⟨one, other, kd, ke, dx_one, dx_other, rfl, c0, c1, c2, c3, kont⟩ := h
    refine ⟨_, (pss_one (ps_ret (pe_and (pe_cmpR op_eq (Ow.pe_methA0 (R := fun C sp => (C = T.k_Plain.C ∧ sp = sp_Plain_word T) ∨ (C = T.k_Signed.C ∧ sp = sp_Kind_word T) ∨ (C = T.k_Pointed.C ∧ sp = sp_Pointed_word T)) (pv 0) (Ow.mal_or (Ow.mal_one ⟨_, _, _, _, T.k_Plain.cl, T.mt_Plain_word, Ow.ok_Plain_word T, hr.mono (by decide : 1 ≤ 1), T.d_Plain_word.b⟩) (Ow.mal_or (Ow.mal_one ⟨_, _, _, _, T.k_Signed.cl, T.mt_Signed_word, Ow.ok_Kind_word T, hr.mono (by decide : 1 ≤ 1), T.d_Kind_word.b⟩) (Ow.mal_one ⟨_, _, _, _, T.k_Pointed.cl, T.mt_Pointed_word, Ow.ok_Pointed_word T, hr.mono (by decide : 1 ≤ 1), T.d_Pointed_word.b⟩))) pass0) (Ow.pe_methA0 (R := fun C sp => (C = T.k_Plain.C ∧ sp = sp_Plain_word T) ∨ (C = T.k_Signed.C ∧ sp = sp_Kind_word T) ∨ (C = T.k_Pointed.C ∧ sp = sp_Pointed_word T)) (pv 1) (Ow.mal_or (Ow.mal_one ⟨_, _, _, _, T.k_Plain.cl, T.mt_Plain_word, Ow.ok_Plain_word T, hr.mono (by decide : 1 ≤ 1), T.d_Plain_word.b⟩) (Ow.mal_or (Ow.mal_one ⟨_, _, _, _, T.k_Signed.cl, T.mt_Signed_word, Ow.ok_Kind_word T, hr.mono (by decide : 1 ≤ 1), T.d_Kind_word.b⟩) (Ow.mal_one ⟨_, _, _, _, T.k_Pointed.cl, T.mt_Pointed_word, Ow.ok_Pointed_word T, hr.mono (by decide : 1 ≤ 1), T.d_Pointed_word.b⟩))) pass0) (nomark _)) (pe_and (pe_cmpR op_eq (pe_fld (pv 0) rfl) (pe_fld (pv 1) rfl) (nomark _)) (pe_one (pe_cmpR op_eq (pe_fld (pv 0) rfl) (pe_fld (pv 1) rfl) (nomark _))))))), ?_⟩
    rcases kd with ⟨kd_w⟩ | ⟨kd_w_2⟩ | ⟨kd_w_3, kd_p⟩
    · replace c0 : H one = some (.ins T.k_Plain.C dx_one [(("width" : Str), V.int (kd_w)), (("point" : Str), V.int (0))]) := c0
      have hk := Ow.krng c1
      have hl := Ow.kle c1
      have hg := Ow.kge c1
      simp only [Ow.KOk] at c1
      simp only [Ow.kw] at hk
      simp only [Ow.kle1] at hl
      simp only [Ow.kge1] at hg
      rcases ke with ⟨ke_w⟩ | ⟨ke_w_2⟩ | ⟨ke_w_3, ke_p⟩
      · replace c2 : H other = some (.ins T.k_Plain.C dx_other [(("width" : Str), V.int (ke_w)), (("point" : Str), V.int (0))]) := c2
        refine ⟨_, rfl, ?_⟩
        refine ⟨_, _, _, _, _, rfl, .inl ⟨rfl, rfl⟩, c0, rfl, ?_⟩
        refine ⟨_, rfl, ?_⟩
        refine ⟨_, rfl, ?_⟩
        refine ⟨_, _, _, _, _, rfl, .inl ⟨rfl, rfl⟩, c2, rfl, ?_⟩
        refine ⟨_, rfl, ?_⟩
        refine ⟨rfl, ?_⟩
        refine ⟨_, rfl, ?_⟩
        refine Ow.ifeqs (fun _ => ?_) (fun h => absurd rfl h)
        refine ⟨_, rfl, ?_⟩
        refine ⟨_, _, _, _, V.int (kd_w), rfl, c0, T.k_Plain.cl, T.na_Plain_width, rfl, ?_⟩
        refine ⟨_, rfl, ?_⟩
        refine ⟨_, _, _, _, V.int (ke_w), rfl, c2, T.k_Plain.cl, T.na_Plain_width, rfl, ?_⟩
        refine ⟨rfl, ?_⟩
        refine ⟨_, rfl, ?_⟩
        refine Ow.ifeqi (fun h1 => ?_) (fun h1 => ?_)
        · refine ⟨_, rfl, ?_⟩
          refine ⟨_, _, _, _, V.int (0), rfl, c0, T.k_Plain.cl, T.na_Plain_point, rfl, ?_⟩
          refine ⟨_, rfl, ?_⟩
          refine ⟨_, _, _, _, V.int (0), rfl, c2, T.k_Plain.cl, T.na_Plain_point, rfl, ?_⟩
          refine ⟨rfl, ?_⟩
          exact kont (decide ((V.int (0)) = V.int (0))) (by simp only [decide_eq_true_eq, V.int.injEq, Ow.Tf_Kind.plain.injEq, Ow.Tf_Kind.signed.injEq, Ow.Tf_Kind.point.injEq, reduceCtorEq, true_iff, false_iff, iff_false, Bool.false_eq_true] <;> omega) _ (Same.refl _)
        · exact kont false (by simp only [decide_eq_true_eq, V.int.injEq, Ow.Tf_Kind.plain.injEq, Ow.Tf_Kind.signed.injEq, Ow.Tf_Kind.point.injEq, reduceCtorEq, true_iff, false_iff, iff_false, Bool.false_eq_true] <;> omega) _ (Same.refl _)
      · replace c2 : H other = some (.ins T.k_Signed.C dx_other [(("width" : Str), V.int (ke_w_2)), (("point" : Str), V.int (0))]) := c2
        refine ⟨_, rfl, ?_⟩
        refine ⟨_, _, _, _, _, rfl, .inl ⟨rfl, rfl⟩, c0, rfl, ?_⟩
        refine ⟨_, rfl, ?_⟩
        refine ⟨_, rfl, ?_⟩
        refine ⟨_, _, _, _, _, rfl, .inr (.inl ⟨rfl, rfl⟩), c2, rfl, ?_⟩
        refine ⟨_, rfl, ?_⟩
        refine ⟨rfl, ?_⟩
        refine ⟨_, rfl, ?_⟩
        refine Ow.ifeqs (fun h => absurd h (by decide +kernel)) (fun _ => ?_)
        exact kont false (by simp only [decide_eq_true_eq, V.int.injEq, Ow.Tf_Kind.plain.injEq, Ow.Tf_Kind.signed.injEq, Ow.Tf_Kind.point.injEq, reduceCtorEq, true_iff, false_iff, iff_false, Bool.false_eq_true] <;> omega) _ (Same.refl _)
      · replace c2 : H other = some (.ins T.k_Pointed.C dx_other [(("width" : Str), V.int (ke_w_3)), (("point" : Str), V.int (ke_p))]) := c2
        refine ⟨_, rfl, ?_⟩
        refine ⟨_, _, _, _, _, rfl, .inl ⟨rfl, rfl⟩, c0, rfl, ?_⟩
        refine ⟨_, rfl, ?_⟩
        refine ⟨_, rfl, ?_⟩
        refine ⟨_, _, _, _, _, rfl, .inr (.inr (⟨rfl, rfl⟩)), c2, rfl, ?_⟩
        refine ⟨_, rfl, ?_⟩
        refine ⟨rfl, ?_⟩
        refine ⟨_, rfl, ?_⟩
        refine Ow.ifeqs (fun h => absurd h (by decide +kernel)) (fun _ => ?_)
        exact kont false (by simp only [decide_eq_true_eq, V.int.injEq, Ow.Tf_Kind.plain.injEq, Ow.Tf_Kind.signed.injEq, Ow.Tf_Kind.point.injEq, reduceCtorEq, true_iff, false_iff, iff_false, Bool.false_eq_true] <;> omega) _ (Same.refl _)
    · replace c0 : H one = some (.ins T.k_Signed.C dx_one [(("width" : Str), V.int (kd_w_2)), (("point" : Str), V.int (0))]) := c0
      have hk := Ow.krng c1
      have hl := Ow.kle c1
      have hg := Ow.kge c1
      simp only [Ow.KOk] at c1
      simp only [Ow.kw] at hk
      simp only [Ow.kle1] at hl
      simp only [Ow.kge1] at hg
      rcases ke with ⟨ke_w_4⟩ | ⟨ke_w_5⟩ | ⟨ke_w_6, ke_p_2⟩
      · replace c2 : H other = some (.ins T.k_Plain.C dx_other [(("width" : Str), V.int (ke_w_4)), (("point" : Str), V.int (0))]) := c2
        refine ⟨_, rfl, ?_⟩
        refine ⟨_, _, _, _, _, rfl, .inr (.inl ⟨rfl, rfl⟩), c0, rfl, ?_⟩
        refine ⟨_, rfl, ?_⟩
        refine ⟨_, rfl, ?_⟩
        refine ⟨_, _, _, _, _, rfl, .inl ⟨rfl, rfl⟩, c2, rfl, ?_⟩
        refine ⟨_, rfl, ?_⟩
        refine ⟨rfl, ?_⟩
        refine ⟨_, rfl, ?_⟩
        refine Ow.ifeqs (fun h => absurd h (by decide +kernel)) (fun _ => ?_)
        exact kont false (by simp only [decide_eq_true_eq, V.int.injEq, Ow.Tf_Kind.plain.injEq, Ow.Tf_Kind.signed.injEq, Ow.Tf_Kind.point.injEq, reduceCtorEq, true_iff, false_iff, iff_false, Bool.false_eq_true] <;> omega) _ (Same.refl _)
      · replace c2 : H other = some (.ins T.k_Signed.C dx_other [(("width" : Str), V.int (ke_w_5)), (("point" : Str), V.int (0))]) := c2
        refine ⟨_, rfl, ?_⟩
        refine ⟨_, _, _, _, _, rfl, .inr (.inl ⟨rfl, rfl⟩), c0, rfl, ?_⟩
        refine ⟨_, rfl, ?_⟩
        refine ⟨_, rfl, ?_⟩
        refine ⟨_, _, _, _, _, rfl, .inr (.inl ⟨rfl, rfl⟩), c2, rfl, ?_⟩
        refine ⟨_, rfl, ?_⟩
        refine ⟨rfl, ?_⟩
        refine ⟨_, rfl, ?_⟩
        refine Ow.ifeqs (fun _ => ?_) (fun h => absurd rfl h)
        refine ⟨_, rfl, ?_⟩
        refine ⟨_, _, _, _, V.int (kd_w_2), rfl, c0, T.k_Signed.cl, T.na_Signed_width, rfl, ?_⟩
        refine ⟨_, rfl, ?_⟩
        refine ⟨_, _, _, _, V.int (ke_w_5), rfl, c2, T.k_Signed.cl, T.na_Signed_width, rfl, ?_⟩
        refine ⟨rfl, ?_⟩
        refine ⟨_, rfl, ?_⟩
        refine Ow.ifeqi (fun h2 => ?_) (fun h2 => ?_)
        · refine ⟨_, rfl, ?_⟩
          refine ⟨_, _, _, _, V.int (0), rfl, c0, T.k_Signed.cl, T.na_Signed_point, rfl, ?_⟩
          refine ⟨_, rfl, ?_⟩
          refine ⟨_, _, _, _, V.int (0), rfl, c2, T.k_Signed.cl, T.na_Signed_point, rfl, ?_⟩
          refine ⟨rfl, ?_⟩
          exact kont (decide ((V.int (0)) = V.int (0))) (by simp only [decide_eq_true_eq, V.int.injEq, Ow.Tf_Kind.plain.injEq, Ow.Tf_Kind.signed.injEq, Ow.Tf_Kind.point.injEq, reduceCtorEq, true_iff, false_iff, iff_false, Bool.false_eq_true] <;> omega) _ (Same.refl _)
        · exact kont false (by simp only [decide_eq_true_eq, V.int.injEq, Ow.Tf_Kind.plain.injEq, Ow.Tf_Kind.signed.injEq, Ow.Tf_Kind.point.injEq, reduceCtorEq, true_iff, false_iff, iff_false, Bool.false_eq_true] <;> omega) _ (Same.refl _)
      · replace c2 : H other = some (.ins T.k_Pointed.C dx_other [(("width" : Str), V.int (ke_w_6)), (("point" : Str), V.int (ke_p_2))]) := c2
        refine ⟨_, rfl, ?_⟩
        refine ⟨_, _, _, _, _, rfl, .inr (.inl ⟨rfl, rfl⟩), c0, rfl, ?_⟩
        refine ⟨_, rfl, ?_⟩
        refine ⟨_, rfl, ?_⟩
        refine ⟨_, _, _, _, _, rfl, .inr (.inr (⟨rfl, rfl⟩)), c2, rfl, ?_⟩
        refine ⟨_, rfl, ?_⟩
        refine ⟨rfl, ?_⟩
        refine ⟨_, rfl, ?_⟩
        refine Ow.ifeqs (fun h => absurd h (by decide +kernel)) (fun _ => ?_)
        exact kont false (by simp only [decide_eq_true_eq, V.int.injEq, Ow.Tf_Kind.plain.injEq, Ow.Tf_Kind.signed.injEq, Ow.Tf_Kind.point.injEq, reduceCtorEq, true_iff, false_iff, iff_false, Bool.false_eq_true] <;> omega) _ (Same.refl _)
    · replace c0 : H one = some (.ins T.k_Pointed.C dx_one [(("width" : Str), V.int (kd_w_3)), (("point" : Str), V.int (kd_p))]) := c0
      have hk := Ow.krng c1
      have hl := Ow.kle c1
      have hg := Ow.kge c1
      simp only [Ow.KOk] at c1
      simp only [Ow.kw] at hk
      simp only [Ow.kle1] at hl
      simp only [Ow.kge1] at hg
      rcases ke with ⟨ke_w_7⟩ | ⟨ke_w_8⟩ | ⟨ke_w_9, ke_p_3⟩
      · replace c2 : H other = some (.ins T.k_Plain.C dx_other [(("width" : Str), V.int (ke_w_7)), (("point" : Str), V.int (0))]) := c2
        refine ⟨_, rfl, ?_⟩
        refine ⟨_, _, _, _, _, rfl, .inr (.inr (⟨rfl, rfl⟩)), c0, rfl, ?_⟩
        refine ⟨_, rfl, ?_⟩
        refine ⟨_, rfl, ?_⟩
        refine ⟨_, _, _, _, _, rfl, .inl ⟨rfl, rfl⟩, c2, rfl, ?_⟩
        refine ⟨_, rfl, ?_⟩
        refine ⟨rfl, ?_⟩
        refine ⟨_, rfl, ?_⟩
        refine Ow.ifeqs (fun h => absurd h (by decide +kernel)) (fun _ => ?_)
        exact kont false (by simp only [decide_eq_true_eq, V.int.injEq, Ow.Tf_Kind.plain.injEq, Ow.Tf_Kind.signed.injEq, Ow.Tf_Kind.point.injEq, reduceCtorEq, true_iff, false_iff, iff_false, Bool.false_eq_true] <;> omega) _ (Same.refl _)
      · replace c2 : H other = some (.ins T.k_Signed.C dx_other [(("width" : Str), V.int (ke_w_8)), (("point" : Str), V.int (0))]) := c2
        refine ⟨_, rfl, ?_⟩
        refine ⟨_, _, _, _, _, rfl, .inr (.inr (⟨rfl, rfl⟩)), c0, rfl, ?_⟩
        refine ⟨_, rfl, ?_⟩
        refine ⟨_, rfl, ?_⟩
        refine ⟨_, _, _, _, _, rfl, .inr (.inl ⟨rfl, rfl⟩), c2, rfl, ?_⟩
        refine ⟨_, rfl, ?_⟩
        refine ⟨rfl, ?_⟩
        refine ⟨_, rfl, ?_⟩
        refine Ow.ifeqs (fun h => absurd h (by decide +kernel)) (fun _ => ?_)
        exact kont false (by simp only [decide_eq_true_eq, V.int.injEq, Ow.Tf_Kind.plain.injEq, Ow.Tf_Kind.signed.injEq, Ow.Tf_Kind.point.injEq, reduceCtorEq, true_iff, false_iff, iff_false, Bool.false_eq_true] <;> omega) _ (Same.refl _)
      · replace c2 : H other = some (.ins T.k_Pointed.C dx_other [(("width" : Str), V.int (ke_w_9)), (("point" : Str), V.int (ke_p_3))]) := c2
        refine ⟨_, rfl, ?_⟩
        refine ⟨_, _, _, _, _, rfl, .inr (.inr (⟨rfl, rfl⟩)), c0, rfl, ?_⟩
        refine ⟨_, rfl, ?_⟩
        refine ⟨_, rfl, ?_⟩
        refine ⟨_, _, _, _, _, rfl, .inr (.inr (⟨rfl, rfl⟩)), c2, rfl, ?_⟩
        refine ⟨_, rfl, ?_⟩
        refine ⟨rfl, ?_⟩
        refine ⟨_, rfl, ?_⟩
        refine Ow.ifeqs (fun _ => ?_) (fun h => absurd rfl h)
        refine ⟨_, rfl, ?_⟩
        refine ⟨_, _, _, _, V.int (kd_w_3), rfl, c0, T.k_Pointed.cl, T.na_Pointed_width, rfl, ?_⟩
        refine ⟨_, rfl, ?_⟩
        refine ⟨_, _, _, _, V.int (ke_w_9), rfl, c2, T.k_Pointed.cl, T.na_Pointed_width, rfl, ?_⟩
        refine ⟨rfl, ?_⟩
        refine ⟨_, rfl, ?_⟩
        refine Ow.ifeqi (fun h3 => ?_) (fun h3 => ?_)
        · refine ⟨_, rfl, ?_⟩
          refine ⟨_, _, _, _, V.int (kd_p), rfl, c0, T.k_Pointed.cl, T.na_Pointed_point, rfl, ?_⟩
          refine ⟨_, rfl, ?_⟩
          refine ⟨_, _, _, _, V.int (ke_p_3), rfl, c2, T.k_Pointed.cl, T.na_Pointed_point, rfl, ?_⟩
          refine ⟨rfl, ?_⟩
          exact kont (decide ((V.int (kd_p)) = V.int (ke_p_3))) (by simp only [decide_eq_true_eq, V.int.injEq, Ow.Tf_Kind.plain.injEq, Ow.Tf_Kind.signed.injEq, Ow.Tf_Kind.point.injEq, reduceCtorEq, true_iff, false_iff, iff_false, Bool.false_eq_true] <;> omega) _ (Same.refl _)
        · exact kont false (by simp only [decide_eq_true_eq, V.int.injEq, Ow.Tf_Kind.plain.injEq, Ow.Tf_Kind.signed.injEq, Ow.Tf_Kind.point.injEq, reduceCtorEq, true_iff, false_iff, iff_false, Bool.false_eq_true] <;> omega) _ (Same.refl _)
theorem ok_l_same_right (T : Tx K mg) : FnOk P w K mg base CX0 8 T.d_l_same_right.f T.d_l_same_right.fd ["_law_kind_here", "_law_spec_here", "_law_other_spec"] (sp_l_same_right T) := by
  refine T.d_l_same_right.F.ok sc_l_same_right (fun vs H Q E h => ?_) (fun cdv A outer s H vs Q E hr h => ?_)
  · obtain ⟨kind, spec, other, kd, ke, dx_kind, rfl, _⟩ := h
    rfl
  · obtain ⟨kind, spec, other, kd, ke, dx_kind, rfl, c0, c1, c2, c3, c4, kont⟩ := h
    refine ⟨_, (pss_cons (ps_set (i := 3) sc_l_same_right.nd rfl (Or.inl rfl) (pe_call (Ow.ok_l_kind T) (hr.mono (by decide : 7 ≤ 7)) (by rfl) T.d_l_kind.m T.d_l_kind.F.kp T.d_l_kind.b .nil pass0 (pa_cons (pv 2) pa_nil)))
        (pss_cons (ps_for PassesOwn.never rfl (pi_list (pe_lst (pa_cons (pe_tup (pa_cons (pv 0) (pa_cons (pv 3) (pa_cons (pe_cmpR (op_eqD hr.units) (pv 1) (pv 2) (nomark _)) pa_nil)))) (pa_cons (pe_tup (pa_cons (pv 3) (pa_cons (pv 0) (pa_cons (pe_cmpR (op_eqD hr.units) (pv 1) (pv 2) (nomark _)) pa_nil)))) pa_nil)))) (pg_tup rfl (pgs_cons (pg_name (i := 4) sc_l_same_right.nd rfl (Or.inl rfl)) (pgs_cons (pg_name (i := 5) sc_l_same_right.nd rfl (Or.inl rfl)) (pgs_cons (pg_name (i := 6) sc_l_same_right.nd rfl (Or.inl rfl)) pgs_nil)))) (pss_cons (ps_set (i := 7) sc_l_same_right.nd rfl (Or.inl rfl) (pe_call (Ow.ok_same_kind T) (hr.mono (by decide : 2 ≤ 7)) (by rfl) T.d_same_kind.m T.d_same_kind.F.kp T.d_same_kind.b .nil pass0 (pa_cons (pv 4) (pa_cons (pv 5) pa_nil))))
        (pss_one (ps_if (PW.pt (pw_or (pt_not (pt_val (pe_callB call_isi (by rfl) T.z_isinstance (by decide +kernel) (pa_cons (pv 7) (pa_cons (pe_bltn (v := .ty "bool") (by rfl) T.z_bool (by decide +kernel) rfl) pa_nil))))) (pw_or1 (pt_cmpR op_ne (pv 7) (pv 6) (nomark _))))) (pss_one (ps_ret pe_bl)) pss_nil))))
        (pss_one (ps_ret (pe_cmpR op_isBl (pe_call (Ow.ok_same_kind T) (hr.mono (by decide : 2 ≤ 7)) (by rfl) T.d_same_kind.m T.d_same_kind.F.kp T.d_same_kind.b .nil pass0 (pa_cons (pv 0) (pa_cons (pe_call (Ow.ok_l_kind T) (hr.mono (by decide : 7 ≤ 7)) (by rfl) T.d_l_kind.m T.d_l_kind.F.kp T.d_l_kind.b .nil pass0 (pa_cons (pv 1) pa_nil)) pa_nil))) pe_bl (nomark _)))))), ?_⟩
    rcases kd with ⟨kd_w⟩ | ⟨kd_w_2⟩ | ⟨kd_w_3, kd_p⟩
    · replace c0 : H kind = some (.ins T.k_Plain.C dx_kind [(("width" : Str), V.int (kd_w)), (("point" : Str), V.int (0))]) := c0
      replace c1 : H spec = some (.tup [.str ("plain"), .int (kd_w), .int (0)]) := c1
      have hk := Ow.krng c2
      have hl := Ow.kle c2
      have hg := Ow.kge c2
      simp only [Ow.KOk] at c2
      simp only [Ow.kw] at hk
      simp only [Ow.kle1] at hl
      simp only [Ow.kge1] at hg
      rcases ke with ⟨ke_w⟩ | ⟨ke_w_2⟩ | ⟨ke_w_3, ke_p⟩
      · replace c3 : H other = some (.tup [.str ("plain"), .int (ke_w), .int (0)]) := c3
        refine ⟨_, rfl, ?_⟩
        refine ⟨_, ((Ow.Tf_Kind.plain ke_w)), rfl, c3, (by walk_at "o2"), fun o dx Hn h1 h2 h3 => ?_⟩
        refine ⟨_, rfl, ?_⟩
        refine ⟨_, rfl, ?_⟩
        refine ⟨_, rfl, ?_⟩
        refine ⟨_, rfl, ?_⟩
        refine ⟨(.tuple [PyData.str ("plain"), PyData.int kd_w, PyData.int 0]), (.tuple [PyData.str ("plain"), PyData.int ke_w, PyData.int 0]), (.tup (SqT.of (h1 _ _ c1)) (.cons (.str _) (.cons (.int _) (.cons (.int _) .nil)))), (.tup (SqT.of (h1 _ _ c3)) (.cons (.str _) (.cons (.int _) (.cons (.int _) .nil)))), (by first | rfl | exact Ow.shp (by first | rfl | (simp only [PyData.canLay0, PyData.canLayAll0, Bool.and_true, Bool.true_and]; first | decide +kernel | assumption | (simp_all; done))) (by simp [PyData.depth, PyData.depthAll])), (by first | rfl | exact Ow.shp (by first | rfl | (simp only [PyData.canLay0, PyData.canLayAll0, Bool.and_true, Bool.true_and]; first | decide +kernel | assumption | (simp_all; done))) (by simp [PyData.depth, PyData.depthAll])), ?_⟩
        rw [show PyData.eqv ((.tuple [PyData.str ("plain"), PyData.int kd_w, PyData.int 0])) ((.tuple [PyData.str ("plain"), PyData.int ke_w, PyData.int 0])) = decide (kd_w = ke_w) by (rw [Bool.eq_iff_iff]; simp [PyData.eqv, PyData.eqvAll])]
        refine ⟨by show 3 ≤ sizeLine; decide, fun p h_p => ?_⟩
        refine ⟨_, rfl, ?_⟩
        refine ⟨_, rfl, ?_⟩
        refine ⟨_, rfl, ?_⟩
        refine ⟨_, rfl, ?_⟩
        refine ⟨(.tuple [PyData.str ("plain"), PyData.int kd_w, PyData.int 0]), (.tuple [PyData.str ("plain"), PyData.int ke_w, PyData.int 0]), (.tup (SqT.of (Ow.at_new h_p (h1 _ _ c1))) (.cons (.str _) (.cons (.int _) (.cons (.int _) .nil)))), (.tup (SqT.of (Ow.at_new h_p (h1 _ _ c3))) (.cons (.str _) (.cons (.int _) (.cons (.int _) .nil)))), (by first | rfl | exact Ow.shp (by first | rfl | (simp only [PyData.canLay0, PyData.canLayAll0, Bool.and_true, Bool.true_and]; first | decide +kernel | assumption | (simp_all; done))) (by simp [PyData.depth, PyData.depthAll])), (by first | rfl | exact Ow.shp (by first | rfl | (simp only [PyData.canLay0, PyData.canLayAll0, Bool.and_true, Bool.true_and]; first | decide +kernel | assumption | (simp_all; done))) (by simp [PyData.depth, PyData.depthAll])), ?_⟩
        rw [show PyData.eqv ((.tuple [PyData.str ("plain"), PyData.int kd_w, PyData.int 0])) ((.tuple [PyData.str ("plain"), PyData.int ke_w, PyData.int 0])) = decide (kd_w = ke_w) by (rw [Bool.eq_iff_iff]; simp [PyData.eqv, PyData.eqvAll])]
        refine ⟨by show 3 ≤ sizeLine; decide, fun p_2 h_p_2 => ?_⟩
        refine ⟨by show 2 ≤ sizeLine; decide, fun p_3 h_p_3 => ?_⟩
        refine ⟨_, rfl, ⟨_, (SqL.of upd_same)⟩, ?_⟩
        refine Ow.un_start (K := K) (a := p_3) (xs := [.ref p, .ref p_2]) ?_
        refine ⟨(SqL.of upd_same), ?_⟩
        refine ⟨_, _, rfl, (SqT.of (Ow.at_new h_p_3 (Ow.at_new h_p_2 upd_same))), rfl, ?_⟩
        refine ⟨_, _, rfl, ?_⟩
        refine ⟨_, _, rfl, ?_⟩
        refine ⟨_, _, rfl, ?_⟩
        refine ⟨rfl, ?_⟩
        refine ⟨_, rfl, ?_⟩
        refine ⟨_, rfl, ?_⟩
        refine ⟨_, _, ((Ow.Tf_Kind.plain kd_w)), ((((Ow.Tf_Kind.plain ke_w)))), _, _, rfl, (Ow.at_new h_p_3 (Ow.at_new h_p_2 (Ow.at_new h_p (h1 _ _ c0)))), (by walk_at "o2"), (Ow.at_new h_p_3 (Ow.at_new h_p_2 (Ow.at_new h_p h3))), (by walk_at "o2"), fun l_found h4 Hn_2 h5 => ?_⟩
        refine ⟨_, rfl, ?_⟩
        refine ⟨_, _, _, _, true, rfl, .ty _, .base (.bl _), kit_ty (by decide +kernel), ?_⟩
        refine ⟨_, rfl, ?_⟩
        refine iteF ?_
        refine ⟨_, rfl, ?_⟩
        refine ⟨_, rfl, ?_⟩
        refine ⟨rfl, ?_⟩
        refine ⟨_, rfl, ?_⟩
        refine Ow.ifneb (fun h6 => ?_) (fun h6 => ?_)
        · try simp only [decide_eq_true_eq, V.int.injEq] at h6
          exact ((by exact h6 (Iff.trans (by assumption) (by simp only [Ow.Tf_Kind.plain.injEq, Ow.Tf_Kind.signed.injEq, Ow.Tf_Kind.point.injEq, reduceCtorEq, Bool.false_eq_true] <;> omega))) : False).elim
        · try simp only [decide_eq_true_eq, V.int.injEq] at h6
          refine ⟨(SqL.of (h5 _ _ upd_same)), ?_⟩
          refine ⟨_, _, rfl, (SqT.of (h5 _ _ (Ow.at_new h_p_3 upd_same))), rfl, ?_⟩
          refine ⟨_, _, rfl, ?_⟩
          refine ⟨_, _, rfl, ?_⟩
          refine ⟨_, _, rfl, ?_⟩
          refine ⟨rfl, ?_⟩
          refine ⟨_, rfl, ?_⟩
          refine ⟨_, rfl, ?_⟩
          refine ⟨_, _, ((((Ow.Tf_Kind.plain ke_w)))), ((Ow.Tf_Kind.plain kd_w)), _, _, rfl, (h5 _ _ (Ow.at_new h_p_3 (Ow.at_new h_p_2 (Ow.at_new h_p h3)))), (by walk_at "o2"), (h5 _ _ (Ow.at_new h_p_3 (Ow.at_new h_p_2 (Ow.at_new h_p (h1 _ _ c0))))), (by walk_at "o2"), fun l_found_2 h7 Hn_3 h8 => ?_⟩
          refine ⟨_, rfl, ?_⟩
          refine ⟨_, _, _, _, true, rfl, .ty _, .base (.bl _), kit_ty (by decide +kernel), ?_⟩
          refine ⟨_, rfl, ?_⟩
          refine iteF ?_
          refine ⟨_, rfl, ?_⟩
          refine ⟨_, rfl, ?_⟩
          refine ⟨rfl, ?_⟩
          refine ⟨_, rfl, ?_⟩
          refine Ow.ifneb (fun h9 => ?_) (fun h9 => ?_)
          · try simp only [decide_eq_true_eq, V.int.injEq] at h9
            exact ((by exact h9 (Iff.trans (by assumption) (by simp only [Ow.Tf_Kind.plain.injEq, Ow.Tf_Kind.signed.injEq, Ow.Tf_Kind.point.injEq, reduceCtorEq, Bool.false_eq_true] <;> omega))) : False).elim
          · try simp only [decide_eq_true_eq, V.int.injEq] at h9
            refine ⟨(SqL.of (h8 _ _ (h5 _ _ upd_same))), ?_⟩
            refine ⟨_, rfl, ?_⟩
            refine ⟨_, rfl, ?_⟩
            refine ⟨_, ((Ow.Tf_Kind.plain kd_w)), rfl, (h8 _ _ (h5 _ _ (Ow.at_new h_p_3 (Ow.at_new h_p_2 (Ow.at_new h_p (h1 _ _ c1)))))), (by walk_at "o2"), fun o_2 dx_2 Hn_4 h10 h11 h12 => ?_⟩
            refine ⟨_, _, ((Ow.Tf_Kind.plain kd_w)), ((((Ow.Tf_Kind.plain kd_w)))), _, _, rfl, (h10 _ _ (h8 _ _ (h5 _ _ (Ow.at_new h_p_3 (Ow.at_new h_p_2 (Ow.at_new h_p (h1 _ _ c0))))))), (by walk_at "o2"), h12, (by walk_at "o2"), fun t h13 Hn_5 h14 => ?_⟩
            refine ⟨_, _, rfl, rfl, ?_⟩
            refine Ow.eqd (by exact (by assumption : _ = true ↔ _ = _).mpr rfl) ?_
            exact kont _ (((((((h1.trans (Ow.same_new h_p)).trans (Ow.same_new h_p_2)).trans (Ow.same_new h_p_3)).trans h5).trans h8).trans h10).trans h14)
      · replace c3 : H other = some (.tup [.str ("signed"), .int (ke_w_2), .int (0)]) := c3
        refine ⟨_, rfl, ?_⟩
        refine ⟨_, ((Ow.Tf_Kind.signed ke_w_2)), rfl, c3, (by walk_at "o2"), fun o_3 dx_3 Hn_6 h15 h16 h17 => ?_⟩
        refine ⟨_, rfl, ?_⟩
        refine ⟨_, rfl, ?_⟩
        refine ⟨_, rfl, ?_⟩
        refine ⟨_, rfl, ?_⟩
        refine ⟨(.tuple [PyData.str ("plain"), PyData.int kd_w, PyData.int 0]), (.tuple [PyData.str ("signed"), PyData.int ke_w_2, PyData.int 0]), (.tup (SqT.of (h15 _ _ c1)) (.cons (.str _) (.cons (.int _) (.cons (.int _) .nil)))), (.tup (SqT.of (h15 _ _ c3)) (.cons (.str _) (.cons (.int _) (.cons (.int _) .nil)))), (by first | rfl | exact Ow.shp (by first | rfl | (simp only [PyData.canLay0, PyData.canLayAll0, Bool.and_true, Bool.true_and]; first | decide +kernel | assumption | (simp_all; done))) (by simp [PyData.depth, PyData.depthAll])), (by first | rfl | exact Ow.shp (by first | rfl | (simp only [PyData.canLay0, PyData.canLayAll0, Bool.and_true, Bool.true_and]; first | decide +kernel | assumption | (simp_all; done))) (by simp [PyData.depth, PyData.depthAll])), ?_⟩
        rw [show PyData.eqv ((.tuple [PyData.str ("plain"), PyData.int kd_w, PyData.int 0])) ((.tuple [PyData.str ("signed"), PyData.int ke_w_2, PyData.int 0])) = decide (False) by (rw [Bool.eq_iff_iff]; simp [PyData.eqv, PyData.eqvAll, (by decide +kernel : ¬ (("plain" : Str) = "signed"))])]
        refine ⟨by show 3 ≤ sizeLine; decide, fun p_4 h_p_4 => ?_⟩
        refine ⟨_, rfl, ?_⟩
        refine ⟨_, rfl, ?_⟩
        refine ⟨_, rfl, ?_⟩
        refine ⟨_, rfl, ?_⟩
        refine ⟨(.tuple [PyData.str ("plain"), PyData.int kd_w, PyData.int 0]), (.tuple [PyData.str ("signed"), PyData.int ke_w_2, PyData.int 0]), (.tup (SqT.of (Ow.at_new h_p_4 (h15 _ _ c1))) (.cons (.str _) (.cons (.int _) (.cons (.int _) .nil)))), (.tup (SqT.of (Ow.at_new h_p_4 (h15 _ _ c3))) (.cons (.str _) (.cons (.int _) (.cons (.int _) .nil)))), (by first | rfl | exact Ow.shp (by first | rfl | (simp only [PyData.canLay0, PyData.canLayAll0, Bool.and_true, Bool.true_and]; first | decide +kernel | assumption | (simp_all; done))) (by simp [PyData.depth, PyData.depthAll])), (by first | rfl | exact Ow.shp (by first | rfl | (simp only [PyData.canLay0, PyData.canLayAll0, Bool.and_true, Bool.true_and]; first | decide +kernel | assumption | (simp_all; done))) (by simp [PyData.depth, PyData.depthAll])), ?_⟩
        rw [show PyData.eqv ((.tuple [PyData.str ("plain"), PyData.int kd_w, PyData.int 0])) ((.tuple [PyData.str ("signed"), PyData.int ke_w_2, PyData.int 0])) = decide (False) by (rw [Bool.eq_iff_iff]; simp [PyData.eqv, PyData.eqvAll, (by decide +kernel : ¬ (("plain" : Str) = "signed"))])]
        refine ⟨by show 3 ≤ sizeLine; decide, fun p_5 h_p_5 => ?_⟩
        refine ⟨by show 2 ≤ sizeLine; decide, fun p_6 h_p_6 => ?_⟩
        refine ⟨_, rfl, ⟨_, (SqL.of upd_same)⟩, ?_⟩
        refine Ow.un_start (K := K) (a := p_6) (xs := [.ref p_4, .ref p_5]) ?_
        refine ⟨(SqL.of upd_same), ?_⟩
        refine ⟨_, _, rfl, (SqT.of (Ow.at_new h_p_6 (Ow.at_new h_p_5 upd_same))), rfl, ?_⟩
        refine ⟨_, _, rfl, ?_⟩
        refine ⟨_, _, rfl, ?_⟩
        refine ⟨_, _, rfl, ?_⟩
        refine ⟨rfl, ?_⟩
        refine ⟨_, rfl, ?_⟩
        refine ⟨_, rfl, ?_⟩
        refine ⟨_, _, ((Ow.Tf_Kind.plain kd_w)), ((((Ow.Tf_Kind.signed ke_w_2)))), _, _, rfl, (Ow.at_new h_p_6 (Ow.at_new h_p_5 (Ow.at_new h_p_4 (h15 _ _ c0)))), (by walk_at "o2"), (Ow.at_new h_p_6 (Ow.at_new h_p_5 (Ow.at_new h_p_4 h17))), (by walk_at "o2"), fun l_found_3 h18 Hn_7 h19 => ?_⟩
        refine ⟨_, rfl, ?_⟩
        refine ⟨_, _, _, _, true, rfl, .ty _, .base (.bl _), kit_ty (by decide +kernel), ?_⟩
        refine ⟨_, rfl, ?_⟩
        refine iteF ?_
        refine ⟨_, rfl, ?_⟩
        refine ⟨_, rfl, ?_⟩
        refine ⟨rfl, ?_⟩
        refine ⟨_, rfl, ?_⟩
        refine Ow.ifneb (fun h20 => ?_) (fun h20 => ?_)
        · try simp only [decide_eq_true_eq, V.int.injEq] at h20
          exact ((by exact h20 (Iff.trans (by assumption) (by simp only [Ow.Tf_Kind.plain.injEq, Ow.Tf_Kind.signed.injEq, Ow.Tf_Kind.point.injEq, reduceCtorEq, Bool.false_eq_true] <;> omega))) : False).elim
        · try simp only [decide_eq_true_eq, V.int.injEq] at h20
          refine ⟨(SqL.of (h19 _ _ upd_same)), ?_⟩
          refine ⟨_, _, rfl, (SqT.of (h19 _ _ (Ow.at_new h_p_6 upd_same))), rfl, ?_⟩
          refine ⟨_, _, rfl, ?_⟩
          refine ⟨_, _, rfl, ?_⟩
          refine ⟨_, _, rfl, ?_⟩
          refine ⟨rfl, ?_⟩
          refine ⟨_, rfl, ?_⟩
          refine ⟨_, rfl, ?_⟩
          refine ⟨_, _, ((((Ow.Tf_Kind.signed ke_w_2)))), ((Ow.Tf_Kind.plain kd_w)), _, _, rfl, (h19 _ _ (Ow.at_new h_p_6 (Ow.at_new h_p_5 (Ow.at_new h_p_4 h17)))), (by walk_at "o2"), (h19 _ _ (Ow.at_new h_p_6 (Ow.at_new h_p_5 (Ow.at_new h_p_4 (h15 _ _ c0))))), (by walk_at "o2"), fun l_found_4 h21 Hn_8 h22 => ?_⟩
          refine ⟨_, rfl, ?_⟩
          refine ⟨_, _, _, _, true, rfl, .ty _, .base (.bl _), kit_ty (by decide +kernel), ?_⟩
          refine ⟨_, rfl, ?_⟩
          refine iteF ?_
          refine ⟨_, rfl, ?_⟩
          refine ⟨_, rfl, ?_⟩
          refine ⟨rfl, ?_⟩
          refine ⟨_, rfl, ?_⟩
          refine Ow.ifneb (fun h23 => ?_) (fun h23 => ?_)
          · try simp only [decide_eq_true_eq, V.int.injEq] at h23
            exact ((by exact h23 (Iff.trans (by assumption) (by simp only [Ow.Tf_Kind.plain.injEq, Ow.Tf_Kind.signed.injEq, Ow.Tf_Kind.point.injEq, reduceCtorEq, Bool.false_eq_true] <;> omega))) : False).elim
          · try simp only [decide_eq_true_eq, V.int.injEq] at h23
            refine ⟨(SqL.of (h22 _ _ (h19 _ _ upd_same))), ?_⟩
            refine ⟨_, rfl, ?_⟩
            refine ⟨_, rfl, ?_⟩
            refine ⟨_, ((Ow.Tf_Kind.plain kd_w)), rfl, (h22 _ _ (h19 _ _ (Ow.at_new h_p_6 (Ow.at_new h_p_5 (Ow.at_new h_p_4 (h15 _ _ c1)))))), (by walk_at "o2"), fun o_4 dx_4 Hn_9 h24 h25 h26 => ?_⟩
            refine ⟨_, _, ((Ow.Tf_Kind.plain kd_w)), ((((Ow.Tf_Kind.plain kd_w)))), _, _, rfl, (h24 _ _ (h22 _ _ (h19 _ _ (Ow.at_new h_p_6 (Ow.at_new h_p_5 (Ow.at_new h_p_4 (h15 _ _ c0))))))), (by walk_at "o2"), h26, (by walk_at "o2"), fun t_2 h27 Hn_10 h28 => ?_⟩
            refine ⟨_, _, rfl, rfl, ?_⟩
            refine Ow.eqd (by exact (by assumption : _ = true ↔ _ = _).mpr rfl) ?_
            exact kont _ (((((((h15.trans (Ow.same_new h_p_4)).trans (Ow.same_new h_p_5)).trans (Ow.same_new h_p_6)).trans h19).trans h22).trans h24).trans h28)
      · replace c3 : H other = some (.tup [.str ("point"), .int (ke_w_3), .int (ke_p)]) := c3
        refine ⟨_, rfl, ?_⟩
        refine ⟨_, ((Ow.Tf_Kind.point ke_w_3 ke_p)), rfl, c3, (by walk_at "o2"), fun o_5 dx_5 Hn_11 h29 h30 h31 => ?_⟩
        refine ⟨_, rfl, ?_⟩
        refine ⟨_, rfl, ?_⟩
        refine ⟨_, rfl, ?_⟩
        refine ⟨_, rfl, ?_⟩
        refine ⟨(.tuple [PyData.str ("plain"), PyData.int kd_w, PyData.int 0]), (.tuple [PyData.str ("point"), PyData.int ke_w_3, PyData.int ke_p]), (.tup (SqT.of (h29 _ _ c1)) (.cons (.str _) (.cons (.int _) (.cons (.int _) .nil)))), (.tup (SqT.of (h29 _ _ c3)) (.cons (.str _) (.cons (.int _) (.cons (.int _) .nil)))), (by first | rfl | exact Ow.shp (by first | rfl | (simp only [PyData.canLay0, PyData.canLayAll0, Bool.and_true, Bool.true_and]; first | decide +kernel | assumption | (simp_all; done))) (by simp [PyData.depth, PyData.depthAll])), (by first | rfl | exact Ow.shp (by first | rfl | (simp only [PyData.canLay0, PyData.canLayAll0, Bool.and_true, Bool.true_and]; first | decide +kernel | assumption | (simp_all; done))) (by simp [PyData.depth, PyData.depthAll])), ?_⟩
        rw [show PyData.eqv ((.tuple [PyData.str ("plain"), PyData.int kd_w, PyData.int 0])) ((.tuple [PyData.str ("point"), PyData.int ke_w_3, PyData.int ke_p])) = decide (False) by (rw [Bool.eq_iff_iff]; simp [PyData.eqv, PyData.eqvAll, (by decide +kernel : ¬ (("plain" : Str) = "point"))])]
        refine ⟨by show 3 ≤ sizeLine; decide, fun p_7 h_p_7 => ?_⟩
        refine ⟨_, rfl, ?_⟩
        refine ⟨_, rfl, ?_⟩
        refine ⟨_, rfl, ?_⟩
        refine ⟨_, rfl, ?_⟩
        refine ⟨(.tuple [PyData.str ("plain"), PyData.int kd_w, PyData.int 0]), (.tuple [PyData.str ("point"), PyData.int ke_w_3, PyData.int ke_p]), (.tup (SqT.of (Ow.at_new h_p_7 (h29 _ _ c1))) (.cons (.str _) (.cons (.int _) (.cons (.int _) .nil)))), (.tup (SqT.of (Ow.at_new h_p_7 (h29 _ _ c3))) (.cons (.str _) (.cons (.int _) (.cons (.int _) .nil)))), (by first | rfl | exact Ow.shp (by first | rfl | (simp only [PyData.canLay0, PyData.canLayAll0, Bool.and_true, Bool.true_and]; first | decide +kernel | assumption | (simp_all; done))) (by simp [PyData.depth, PyData.depthAll])), (by first | rfl | exact Ow.shp (by first | rfl | (simp only [PyData.canLay0, PyData.canLayAll0, Bool.and_true, Bool.true_and]; first | decide +kernel | assumption | (simp_all; done))) (by simp [PyData.depth, PyData.depthAll])), ?_⟩
        rw [show PyData.eqv ((.tuple [PyData.str ("plain"), PyData.int kd_w, PyData.int 0])) ((.tuple [PyData.str ("point"), PyData.int ke_w_3, PyData.int ke_p])) = decide (False) by (rw [Bool.eq_iff_iff]; simp [PyData.eqv, PyData.eqvAll, (by decide +kernel : ¬ (("plain" : Str) = "point"))])]
        refine ⟨by show 3 ≤ sizeLine; decide, fun p_8 h_p_8 => ?_⟩
        refine ⟨by show 2 ≤ sizeLine; decide, fun p_9 h_p_9 => ?_⟩
        refine ⟨_, rfl, ⟨_, (SqL.of upd_same)⟩, ?_⟩
        refine Ow.un_start (K := K) (a := p_9) (xs := [.ref p_7, .ref p_8]) ?_
        refine ⟨(SqL.of upd_same), ?_⟩
        refine ⟨_, _, rfl, (SqT.of (Ow.at_new h_p_9 (Ow.at_new h_p_8 upd_same))), rfl, ?_⟩
        refine ⟨_, _, rfl, ?_⟩
        refine ⟨_, _, rfl, ?_⟩
        refine ⟨_, _, rfl, ?_⟩
        refine ⟨rfl, ?_⟩
        refine ⟨_, rfl, ?_⟩
        refine ⟨_, rfl, ?_⟩
        refine ⟨_, _, ((Ow.Tf_Kind.plain kd_w)), ((((Ow.Tf_Kind.point ke_w_3 ke_p)))), _, _, rfl, (Ow.at_new h_p_9 (Ow.at_new h_p_8 (Ow.at_new h_p_7 (h29 _ _ c0)))), (by walk_at "o2"), (Ow.at_new h_p_9 (Ow.at_new h_p_8 (Ow.at_new h_p_7 h31))), (by walk_at "o2"), fun l_found_5 h32 Hn_12 h33 => ?_⟩
        refine ⟨_, rfl, ?_⟩
        refine ⟨_, _, _, _, true, rfl, .ty _, .base (.bl _), kit_ty (by decide +kernel), ?_⟩
        refine ⟨_, rfl, ?_⟩
        refine iteF ?_
        refine ⟨_, rfl, ?_⟩
        refine ⟨_, rfl, ?_⟩
        refine ⟨rfl, ?_⟩
        refine ⟨_, rfl, ?_⟩
        refine Ow.ifneb (fun h34 => ?_) (fun h34 => ?_)
        · try simp only [decide_eq_true_eq, V.int.injEq] at h34
          exact ((by exact h34 (Iff.trans (by assumption) (by simp only [Ow.Tf_Kind.plain.injEq, Ow.Tf_Kind.signed.injEq, Ow.Tf_Kind.point.injEq, reduceCtorEq, Bool.false_eq_true] <;> omega))) : False).elim
        · try simp only [decide_eq_true_eq, V.int.injEq] at h34
          refine ⟨(SqL.of (h33 _ _ upd_same)), ?_⟩
          refine ⟨_, _, rfl, (SqT.of (h33 _ _ (Ow.at_new h_p_9 upd_same))), rfl, ?_⟩
          refine ⟨_, _, rfl, ?_⟩
          refine ⟨_, _, rfl, ?_⟩
          refine ⟨_, _, rfl, ?_⟩
          refine ⟨rfl, ?_⟩
          refine ⟨_, rfl, ?_⟩
          refine ⟨_, rfl, ?_⟩
          refine ⟨_, _, ((((Ow.Tf_Kind.point ke_w_3 ke_p)))), ((Ow.Tf_Kind.plain kd_w)), _, _, rfl, (h33 _ _ (Ow.at_new h_p_9 (Ow.at_new h_p_8 (Ow.at_new h_p_7 h31)))), (by walk_at "o2"), (h33 _ _ (Ow.at_new h_p_9 (Ow.at_new h_p_8 (Ow.at_new h_p_7 (h29 _ _ c0))))), (by walk_at "o2"), fun l_found_6 h35 Hn_13 h36 => ?_⟩
          refine ⟨_, rfl, ?_⟩
          refine ⟨_, _, _, _, true, rfl, .ty _, .base (.bl _), kit_ty (by decide +kernel), ?_⟩
          refine ⟨_, rfl, ?_⟩
          refine iteF ?_
          refine ⟨_, rfl, ?_⟩
          refine ⟨_, rfl, ?_⟩
          refine ⟨rfl, ?_⟩
          refine ⟨_, rfl, ?_⟩
          refine Ow.ifneb (fun h37 => ?_) (fun h37 => ?_)
          · try simp only [decide_eq_true_eq, V.int.injEq] at h37
            exact ((by exact h37 (Iff.trans (by assumption) (by simp only [Ow.Tf_Kind.plain.injEq, Ow.Tf_Kind.signed.injEq, Ow.Tf_Kind.point.injEq, reduceCtorEq, Bool.false_eq_true] <;> omega))) : False).elim
          · try simp only [decide_eq_true_eq, V.int.injEq] at h37
            refine ⟨(SqL.of (h36 _ _ (h33 _ _ upd_same))), ?_⟩
            refine ⟨_, rfl, ?_⟩
            refine ⟨_, rfl, ?_⟩
            refine ⟨_, ((Ow.Tf_Kind.plain kd_w)), rfl, (h36 _ _ (h33 _ _ (Ow.at_new h_p_9 (Ow.at_new h_p_8 (Ow.at_new h_p_7 (h29 _ _ c1)))))), (by walk_at "o2"), fun o_6 dx_6 Hn_14 h38 h39 h40 => ?_⟩
            refine ⟨_, _, ((Ow.Tf_Kind.plain kd_w)), ((((Ow.Tf_Kind.plain kd_w)))), _, _, rfl, (h38 _ _ (h36 _ _ (h33 _ _ (Ow.at_new h_p_9 (Ow.at_new h_p_8 (Ow.at_new h_p_7 (h29 _ _ c0))))))), (by walk_at "o2"), h40, (by walk_at "o2"), fun t_3 h41 Hn_15 h42 => ?_⟩
            refine ⟨_, _, rfl, rfl, ?_⟩
            refine Ow.eqd (by exact (by assumption : _ = true ↔ _ = _).mpr rfl) ?_
            exact kont _ (((((((h29.trans (Ow.same_new h_p_7)).trans (Ow.same_new h_p_8)).trans (Ow.same_new h_p_9)).trans h33).trans h36).trans h38).trans h42)
    · replace c0 : H kind = some (.ins T.k_Signed.C dx_kind [(("width" : Str), V.int (kd_w_2)), (("point" : Str), V.int (0))]) := c0
      replace c1 : H spec = some (.tup [.str ("signed"), .int (kd_w_2), .int (0)]) := c1
      have hk := Ow.krng c2
      have hl := Ow.kle c2
      have hg := Ow.kge c2
      simp only [Ow.KOk] at c2
      simp only [Ow.kw] at hk
      simp only [Ow.kle1] at hl
      simp only [Ow.kge1] at hg
      rcases ke with ⟨ke_w_4⟩ | ⟨ke_w_5⟩ | ⟨ke_w_6, ke_p_2⟩
      · replace c3 : H other = some (.tup [.str ("plain"), .int (ke_w_4), .int (0)]) := c3
        refine ⟨_, rfl, ?_⟩
        refine ⟨_, ((Ow.Tf_Kind.plain ke_w_4)), rfl, c3, (by walk_at "o2"), fun o_7 dx_7 Hn_16 h43 h44 h45 => ?_⟩
        refine ⟨_, rfl, ?_⟩
        refine ⟨_, rfl, ?_⟩
        refine ⟨_, rfl, ?_⟩
        refine ⟨_, rfl, ?_⟩
        refine ⟨(.tuple [PyData.str ("signed"), PyData.int kd_w_2, PyData.int 0]), (.tuple [PyData.str ("plain"), PyData.int ke_w_4, PyData.int 0]), (.tup (SqT.of (h43 _ _ c1)) (.cons (.str _) (.cons (.int _) (.cons (.int _) .nil)))), (.tup (SqT.of (h43 _ _ c3)) (.cons (.str _) (.cons (.int _) (.cons (.int _) .nil)))), (by first | rfl | exact Ow.shp (by first | rfl | (simp only [PyData.canLay0, PyData.canLayAll0, Bool.and_true, Bool.true_and]; first | decide +kernel | assumption | (simp_all; done))) (by simp [PyData.depth, PyData.depthAll])), (by first | rfl | exact Ow.shp (by first | rfl | (simp only [PyData.canLay0, PyData.canLayAll0, Bool.and_true, Bool.true_and]; first | decide +kernel | assumption | (simp_all; done))) (by simp [PyData.depth, PyData.depthAll])), ?_⟩
        rw [show PyData.eqv ((.tuple [PyData.str ("signed"), PyData.int kd_w_2, PyData.int 0])) ((.tuple [PyData.str ("plain"), PyData.int ke_w_4, PyData.int 0])) = decide (False) by (rw [Bool.eq_iff_iff]; simp [PyData.eqv, PyData.eqvAll, (by decide +kernel : ¬ (("signed" : Str) = "plain"))])]
        refine ⟨by show 3 ≤ sizeLine; decide, fun p_10 h_p_10 => ?_⟩
        refine ⟨_, rfl, ?_⟩
        refine ⟨_, rfl, ?_⟩
        refine ⟨_, rfl, ?_⟩
        refine ⟨_, rfl, ?_⟩
        refine ⟨(.tuple [PyData.str ("signed"), PyData.int kd_w_2, PyData.int 0]), (.tuple [PyData.str ("plain"), PyData.int ke_w_4, PyData.int 0]), (.tup (SqT.of (Ow.at_new h_p_10 (h43 _ _ c1))) (.cons (.str _) (.cons (.int _) (.cons (.int _) .nil)))), (.tup (SqT.of (Ow.at_new h_p_10 (h43 _ _ c3))) (.cons (.str _) (.cons (.int _) (.cons (.int _) .nil)))), (by first | rfl | exact Ow.shp (by first | rfl | (simp only [PyData.canLay0, PyData.canLayAll0, Bool.and_true, Bool.true_and]; first | decide +kernel | assumption | (simp_all; done))) (by simp [PyData.depth, PyData.depthAll])), (by first | rfl | exact Ow.shp (by first | rfl | (simp only [PyData.canLay0, PyData.canLayAll0, Bool.and_true, Bool.true_and]; first | decide +kernel | assumption | (simp_all; done))) (by simp [PyData.depth, PyData.depthAll])), ?_⟩
        rw [show PyData.eqv ((.tuple [PyData.str ("signed"), PyData.int kd_w_2, PyData.int 0])) ((.tuple [PyData.str ("plain"), PyData.int ke_w_4, PyData.int 0])) = decide (False) by (rw [Bool.eq_iff_iff]; simp [PyData.eqv, PyData.eqvAll, (by decide +kernel : ¬ (("signed" : Str) = "plain"))])]
        refine ⟨by show 3 ≤ sizeLine; decide, fun p_11 h_p_11 => ?_⟩
        refine ⟨by show 2 ≤ sizeLine; decide, fun p_12 h_p_12 => ?_⟩
        refine ⟨_, rfl, ⟨_, (SqL.of upd_same)⟩, ?_⟩
        refine Ow.un_start (K := K) (a := p_12) (xs := [.ref p_10, .ref p_11]) ?_
        refine ⟨(SqL.of upd_same), ?_⟩
        refine ⟨_, _, rfl, (SqT.of (Ow.at_new h_p_12 (Ow.at_new h_p_11 upd_same))), rfl, ?_⟩
        refine ⟨_, _, rfl, ?_⟩
        refine ⟨_, _, rfl, ?_⟩
        refine ⟨_, _, rfl, ?_⟩
        refine ⟨rfl, ?_⟩
        refine ⟨_, rfl, ?_⟩
        refine ⟨_, rfl, ?_⟩
        refine ⟨_, _, ((Ow.Tf_Kind.signed kd_w_2)), ((((Ow.Tf_Kind.plain ke_w_4)))), _, _, rfl, (Ow.at_new h_p_12 (Ow.at_new h_p_11 (Ow.at_new h_p_10 (h43 _ _ c0)))), (by walk_at "o2"), (Ow.at_new h_p_12 (Ow.at_new h_p_11 (Ow.at_new h_p_10 h45))), (by walk_at "o2"), fun l_found_7 h46 Hn_17 h47 => ?_⟩
        refine ⟨_, rfl, ?_⟩
        refine ⟨_, _, _, _, true, rfl, .ty _, .base (.bl _), kit_ty (by decide +kernel), ?_⟩
        refine ⟨_, rfl, ?_⟩
        refine iteF ?_
        refine ⟨_, rfl, ?_⟩
        refine ⟨_, rfl, ?_⟩
        refine ⟨rfl, ?_⟩
        refine ⟨_, rfl, ?_⟩
        refine Ow.ifneb (fun h48 => ?_) (fun h48 => ?_)
        · try simp only [decide_eq_true_eq, V.int.injEq] at h48
          exact ((by exact h48 (Iff.trans (by assumption) (by simp only [Ow.Tf_Kind.plain.injEq, Ow.Tf_Kind.signed.injEq, Ow.Tf_Kind.point.injEq, reduceCtorEq, Bool.false_eq_true] <;> omega))) : False).elim
        · try simp only [decide_eq_true_eq, V.int.injEq] at h48
          refine ⟨(SqL.of (h47 _ _ upd_same)), ?_⟩
          refine ⟨_, _, rfl, (SqT.of (h47 _ _ (Ow.at_new h_p_12 upd_same))), rfl, ?_⟩
          refine ⟨_, _, rfl, ?_⟩
          refine ⟨_, _, rfl, ?_⟩
          refine ⟨_, _, rfl, ?_⟩
          refine ⟨rfl, ?_⟩
          refine ⟨_, rfl, ?_⟩
          refine ⟨_, rfl, ?_⟩
          refine ⟨_, _, ((((Ow.Tf_Kind.plain ke_w_4)))), ((Ow.Tf_Kind.signed kd_w_2)), _, _, rfl, (h47 _ _ (Ow.at_new h_p_12 (Ow.at_new h_p_11 (Ow.at_new h_p_10 h45)))), (by walk_at "o2"), (h47 _ _ (Ow.at_new h_p_12 (Ow.at_new h_p_11 (Ow.at_new h_p_10 (h43 _ _ c0))))), (by walk_at "o2"), fun l_found_8 h49 Hn_18 h50 => ?_⟩
          refine ⟨_, rfl, ?_⟩
          refine ⟨_, _, _, _, true, rfl, .ty _, .base (.bl _), kit_ty (by decide +kernel), ?_⟩
          refine ⟨_, rfl, ?_⟩
          refine iteF ?_
          refine ⟨_, rfl, ?_⟩
          refine ⟨_, rfl, ?_⟩
          refine ⟨rfl, ?_⟩
          refine ⟨_, rfl, ?_⟩
          refine Ow.ifneb (fun h51 => ?_) (fun h51 => ?_)
          · try simp only [decide_eq_true_eq, V.int.injEq] at h51
            exact ((by exact h51 (Iff.trans (by assumption) (by simp only [Ow.Tf_Kind.plain.injEq, Ow.Tf_Kind.signed.injEq, Ow.Tf_Kind.point.injEq, reduceCtorEq, Bool.false_eq_true] <;> omega))) : False).elim
          · try simp only [decide_eq_true_eq, V.int.injEq] at h51
            refine ⟨(SqL.of (h50 _ _ (h47 _ _ upd_same))), ?_⟩
            refine ⟨_, rfl, ?_⟩
            refine ⟨_, rfl, ?_⟩
            refine ⟨_, ((Ow.Tf_Kind.signed kd_w_2)), rfl, (h50 _ _ (h47 _ _ (Ow.at_new h_p_12 (Ow.at_new h_p_11 (Ow.at_new h_p_10 (h43 _ _ c1)))))), (by walk_at "o2"), fun o_8 dx_8 Hn_19 h52 h53 h54 => ?_⟩
            refine ⟨_, _, ((Ow.Tf_Kind.signed kd_w_2)), ((((Ow.Tf_Kind.signed kd_w_2)))), _, _, rfl, (h52 _ _ (h50 _ _ (h47 _ _ (Ow.at_new h_p_12 (Ow.at_new h_p_11 (Ow.at_new h_p_10 (h43 _ _ c0))))))), (by walk_at "o2"), h54, (by walk_at "o2"), fun t_4 h55 Hn_20 h56 => ?_⟩
            refine ⟨_, _, rfl, rfl, ?_⟩
            refine Ow.eqd (by exact (by assumption : _ = true ↔ _ = _).mpr rfl) ?_
            exact kont _ (((((((h43.trans (Ow.same_new h_p_10)).trans (Ow.same_new h_p_11)).trans (Ow.same_new h_p_12)).trans h47).trans h50).trans h52).trans h56)
      · replace c3 : H other = some (.tup [.str ("signed"), .int (ke_w_5), .int (0)]) := c3
        refine ⟨_, rfl, ?_⟩
        refine ⟨_, ((Ow.Tf_Kind.signed ke_w_5)), rfl, c3, (by walk_at "o2"), fun o_9 dx_9 Hn_21 h57 h58 h59 => ?_⟩
        refine ⟨_, rfl, ?_⟩
        refine ⟨_, rfl, ?_⟩
        refine ⟨_, rfl, ?_⟩
        refine ⟨_, rfl, ?_⟩
        refine ⟨(.tuple [PyData.str ("signed"), PyData.int kd_w_2, PyData.int 0]), (.tuple [PyData.str ("signed"), PyData.int ke_w_5, PyData.int 0]), (.tup (SqT.of (h57 _ _ c1)) (.cons (.str _) (.cons (.int _) (.cons (.int _) .nil)))), (.tup (SqT.of (h57 _ _ c3)) (.cons (.str _) (.cons (.int _) (.cons (.int _) .nil)))), (by first | rfl | exact Ow.shp (by first | rfl | (simp only [PyData.canLay0, PyData.canLayAll0, Bool.and_true, Bool.true_and]; first | decide +kernel | assumption | (simp_all; done))) (by simp [PyData.depth, PyData.depthAll])), (by first | rfl | exact Ow.shp (by first | rfl | (simp only [PyData.canLay0, PyData.canLayAll0, Bool.and_true, Bool.true_and]; first | decide +kernel | assumption | (simp_all; done))) (by simp [PyData.depth, PyData.depthAll])), ?_⟩
        rw [show PyData.eqv ((.tuple [PyData.str ("signed"), PyData.int kd_w_2, PyData.int 0])) ((.tuple [PyData.str ("signed"), PyData.int ke_w_5, PyData.int 0])) = decide (kd_w_2 = ke_w_5) by (rw [Bool.eq_iff_iff]; simp [PyData.eqv, PyData.eqvAll])]
        refine ⟨by show 3 ≤ sizeLine; decide, fun p_13 h_p_13 => ?_⟩
        refine ⟨_, rfl, ?_⟩
        refine ⟨_, rfl, ?_⟩
        refine ⟨_, rfl, ?_⟩
        refine ⟨_, rfl, ?_⟩
        refine ⟨(.tuple [PyData.str ("signed"), PyData.int kd_w_2, PyData.int 0]), (.tuple [PyData.str ("signed"), PyData.int ke_w_5, PyData.int 0]), (.tup (SqT.of (Ow.at_new h_p_13 (h57 _ _ c1))) (.cons (.str _) (.cons (.int _) (.cons (.int _) .nil)))), (.tup (SqT.of (Ow.at_new h_p_13 (h57 _ _ c3))) (.cons (.str _) (.cons (.int _) (.cons (.int _) .nil)))), (by first | rfl | exact Ow.shp (by first | rfl | (simp only [PyData.canLay0, PyData.canLayAll0, Bool.and_true, Bool.true_and]; first | decide +kernel | assumption | (simp_all; done))) (by simp [PyData.depth, PyData.depthAll])), (by first | rfl | exact Ow.shp (by first | rfl | (simp only [PyData.canLay0, PyData.canLayAll0, Bool.and_true, Bool.true_and]; first | decide +kernel | assumption | (simp_all; done))) (by simp [PyData.depth, PyData.depthAll])), ?_⟩
        rw [show PyData.eqv ((.tuple [PyData.str ("signed"), PyData.int kd_w_2, PyData.int 0])) ((.tuple [PyData.str ("signed"), PyData.int ke_w_5, PyData.int 0])) = decide (kd_w_2 = ke_w_5) by (rw [Bool.eq_iff_iff]; simp [PyData.eqv, PyData.eqvAll])]
        refine ⟨by show 3 ≤ sizeLine; decide, fun p_14 h_p_14 => ?_⟩
        refine ⟨by show 2 ≤ sizeLine; decide, fun p_15 h_p_15 => ?_⟩
        refine ⟨_, rfl, ⟨_, (SqL.of upd_same)⟩, ?_⟩
        refine Ow.un_start (K := K) (a := p_15) (xs := [.ref p_13, .ref p_14]) ?_
        refine ⟨(SqL.of upd_same), ?_⟩
        refine ⟨_, _, rfl, (SqT.of (Ow.at_new h_p_15 (Ow.at_new h_p_14 upd_same))), rfl, ?_⟩
        refine ⟨_, _, rfl, ?_⟩
        refine ⟨_, _, rfl, ?_⟩
        refine ⟨_, _, rfl, ?_⟩
        refine ⟨rfl, ?_⟩
        refine ⟨_, rfl, ?_⟩
        refine ⟨_, rfl, ?_⟩
        refine ⟨_, _, ((Ow.Tf_Kind.signed kd_w_2)), ((((Ow.Tf_Kind.signed ke_w_5)))), _, _, rfl, (Ow.at_new h_p_15 (Ow.at_new h_p_14 (Ow.at_new h_p_13 (h57 _ _ c0)))), (by walk_at "o2"), (Ow.at_new h_p_15 (Ow.at_new h_p_14 (Ow.at_new h_p_13 h59))), (by walk_at "o2"), fun l_found_9 h60 Hn_22 h61 => ?_⟩
        refine ⟨_, rfl, ?_⟩
        refine ⟨_, _, _, _, true, rfl, .ty _, .base (.bl _), kit_ty (by decide +kernel), ?_⟩
        refine ⟨_, rfl, ?_⟩
        refine iteF ?_
        refine ⟨_, rfl, ?_⟩
        refine ⟨_, rfl, ?_⟩
        refine ⟨rfl, ?_⟩
        refine ⟨_, rfl, ?_⟩
        refine Ow.ifneb (fun h62 => ?_) (fun h62 => ?_)
        · try simp only [decide_eq_true_eq, V.int.injEq] at h62
          exact ((by exact h62 (Iff.trans (by assumption) (by simp only [Ow.Tf_Kind.plain.injEq, Ow.Tf_Kind.signed.injEq, Ow.Tf_Kind.point.injEq, reduceCtorEq, Bool.false_eq_true] <;> omega))) : False).elim
        · try simp only [decide_eq_true_eq, V.int.injEq] at h62
          refine ⟨(SqL.of (h61 _ _ upd_same)), ?_⟩
          refine ⟨_, _, rfl, (SqT.of (h61 _ _ (Ow.at_new h_p_15 upd_same))), rfl, ?_⟩
          refine ⟨_, _, rfl, ?_⟩
          refine ⟨_, _, rfl, ?_⟩
          refine ⟨_, _, rfl, ?_⟩
          refine ⟨rfl, ?_⟩
          refine ⟨_, rfl, ?_⟩
          refine ⟨_, rfl, ?_⟩
          refine ⟨_, _, ((((Ow.Tf_Kind.signed ke_w_5)))), ((Ow.Tf_Kind.signed kd_w_2)), _, _, rfl, (h61 _ _ (Ow.at_new h_p_15 (Ow.at_new h_p_14 (Ow.at_new h_p_13 h59)))), (by walk_at "o2"), (h61 _ _ (Ow.at_new h_p_15 (Ow.at_new h_p_14 (Ow.at_new h_p_13 (h57 _ _ c0))))), (by walk_at "o2"), fun l_found_10 h63 Hn_23 h64 => ?_⟩
          refine ⟨_, rfl, ?_⟩
          refine ⟨_, _, _, _, true, rfl, .ty _, .base (.bl _), kit_ty (by decide +kernel), ?_⟩
          refine ⟨_, rfl, ?_⟩
          refine iteF ?_
          refine ⟨_, rfl, ?_⟩
          refine ⟨_, rfl, ?_⟩
          refine ⟨rfl, ?_⟩
          refine ⟨_, rfl, ?_⟩
          refine Ow.ifneb (fun h65 => ?_) (fun h65 => ?_)
          · try simp only [decide_eq_true_eq, V.int.injEq] at h65
            exact ((by exact h65 (Iff.trans (by assumption) (by simp only [Ow.Tf_Kind.plain.injEq, Ow.Tf_Kind.signed.injEq, Ow.Tf_Kind.point.injEq, reduceCtorEq, Bool.false_eq_true] <;> omega))) : False).elim
          · try simp only [decide_eq_true_eq, V.int.injEq] at h65
            refine ⟨(SqL.of (h64 _ _ (h61 _ _ upd_same))), ?_⟩
            refine ⟨_, rfl, ?_⟩
            refine ⟨_, rfl, ?_⟩
            refine ⟨_, ((Ow.Tf_Kind.signed kd_w_2)), rfl, (h64 _ _ (h61 _ _ (Ow.at_new h_p_15 (Ow.at_new h_p_14 (Ow.at_new h_p_13 (h57 _ _ c1)))))), (by walk_at "o2"), fun o_10 dx_10 Hn_24 h66 h67 h68 => ?_⟩
            refine ⟨_, _, ((Ow.Tf_Kind.signed kd_w_2)), ((((Ow.Tf_Kind.signed kd_w_2)))), _, _, rfl, (h66 _ _ (h64 _ _ (h61 _ _ (Ow.at_new h_p_15 (Ow.at_new h_p_14 (Ow.at_new h_p_13 (h57 _ _ c0))))))), (by walk_at "o2"), h68, (by walk_at "o2"), fun t_5 h69 Hn_25 h70 => ?_⟩
            refine ⟨_, _, rfl, rfl, ?_⟩
            refine Ow.eqd (by exact (by assumption : _ = true ↔ _ = _).mpr rfl) ?_
            exact kont _ (((((((h57.trans (Ow.same_new h_p_13)).trans (Ow.same_new h_p_14)).trans (Ow.same_new h_p_15)).trans h61).trans h64).trans h66).trans h70)
      · replace c3 : H other = some (.tup [.str ("point"), .int (ke_w_6), .int (ke_p_2)]) := c3
        refine ⟨_, rfl, ?_⟩
        refine ⟨_, ((Ow.Tf_Kind.point ke_w_6 ke_p_2)), rfl, c3, (by walk_at "o2"), fun o_11 dx_11 Hn_26 h71 h72 h73 => ?_⟩
        refine ⟨_, rfl, ?_⟩
        refine ⟨_, rfl, ?_⟩
        refine ⟨_, rfl, ?_⟩
        refine ⟨_, rfl, ?_⟩
        refine ⟨(.tuple [PyData.str ("signed"), PyData.int kd_w_2, PyData.int 0]), (.tuple [PyData.str ("point"), PyData.int ke_w_6, PyData.int ke_p_2]), (.tup (SqT.of (h71 _ _ c1)) (.cons (.str _) (.cons (.int _) (.cons (.int _) .nil)))), (.tup (SqT.of (h71 _ _ c3)) (.cons (.str _) (.cons (.int _) (.cons (.int _) .nil)))), (by first | rfl | exact Ow.shp (by first | rfl | (simp only [PyData.canLay0, PyData.canLayAll0, Bool.and_true, Bool.true_and]; first | decide +kernel | assumption | (simp_all; done))) (by simp [PyData.depth, PyData.depthAll])), (by first | rfl | exact Ow.shp (by first | rfl | (simp only [PyData.canLay0, PyData.canLayAll0, Bool.and_true, Bool.true_and]; first | decide +kernel | assumption | (simp_all; done))) (by simp [PyData.depth, PyData.depthAll])), ?_⟩
        rw [show PyData.eqv ((.tuple [PyData.str ("signed"), PyData.int kd_w_2, PyData.int 0])) ((.tuple [PyData.str ("point"), PyData.int ke_w_6, PyData.int ke_p_2])) = decide (False) by (rw [Bool.eq_iff_iff]; simp [PyData.eqv, PyData.eqvAll, (by decide +kernel : ¬ (("signed" : Str) = "point"))])]
        refine ⟨by show 3 ≤ sizeLine; decide, fun p_16 h_p_16 => ?_⟩
        refine ⟨_, rfl, ?_⟩
        refine ⟨_, rfl, ?_⟩
        refine ⟨_, rfl, ?_⟩
        refine ⟨_, rfl, ?_⟩
        refine ⟨(.tuple [PyData.str ("signed"), PyData.int kd_w_2, PyData.int 0]), (.tuple [PyData.str ("point"), PyData.int ke_w_6, PyData.int ke_p_2]), (.tup (SqT.of (Ow.at_new h_p_16 (h71 _ _ c1))) (.cons (.str _) (.cons (.int _) (.cons (.int _) .nil)))), (.tup (SqT.of (Ow.at_new h_p_16 (h71 _ _ c3))) (.cons (.str _) (.cons (.int _) (.cons (.int _) .nil)))), (by first | rfl | exact Ow.shp (by first | rfl | (simp only [PyData.canLay0, PyData.canLayAll0, Bool.and_true, Bool.true_and]; first | decide +kernel | assumption | (simp_all; done))) (by simp [PyData.depth, PyData.depthAll])), (by first | rfl | exact Ow.shp (by first | rfl | (simp only [PyData.canLay0, PyData.canLayAll0, Bool.and_true, Bool.true_and]; first | decide +kernel | assumption | (simp_all; done))) (by simp [PyData.depth, PyData.depthAll])), ?_⟩
        rw [show PyData.eqv ((.tuple [PyData.str ("signed"), PyData.int kd_w_2, PyData.int 0])) ((.tuple [PyData.str ("point"), PyData.int ke_w_6, PyData.int ke_p_2])) = decide (False) by (rw [Bool.eq_iff_iff]; simp [PyData.eqv, PyData.eqvAll, (by decide +kernel : ¬ (("signed" : Str) = "point"))])]
        refine ⟨by show 3 ≤ sizeLine; decide, fun p_17 h_p_17 => ?_⟩
        refine ⟨by show 2 ≤ sizeLine; decide, fun p_18 h_p_18 => ?_⟩
        refine ⟨_, rfl, ⟨_, (SqL.of upd_same)⟩, ?_⟩
        refine Ow.un_start (K := K) (a := p_18) (xs := [.ref p_16, .ref p_17]) ?_
        refine ⟨(SqL.of upd_same), ?_⟩
        refine ⟨_, _, rfl, (SqT.of (Ow.at_new h_p_18 (Ow.at_new h_p_17 upd_same))), rfl, ?_⟩
        refine ⟨_, _, rfl, ?_⟩
        refine ⟨_, _, rfl, ?_⟩
        refine ⟨_, _, rfl, ?_⟩
        refine ⟨rfl, ?_⟩
        refine ⟨_, rfl, ?_⟩
        refine ⟨_, rfl, ?_⟩
        refine ⟨_, _, ((Ow.Tf_Kind.signed kd_w_2)), ((((Ow.Tf_Kind.point ke_w_6 ke_p_2)))), _, _, rfl, (Ow.at_new h_p_18 (Ow.at_new h_p_17 (Ow.at_new h_p_16 (h71 _ _ c0)))), (by walk_at "o2"), (Ow.at_new h_p_18 (Ow.at_new h_p_17 (Ow.at_new h_p_16 h73))), (by walk_at "o2"), fun l_found_11 h74 Hn_27 h75 => ?_⟩
        refine ⟨_, rfl, ?_⟩
        refine ⟨_, _, _, _, true, rfl, .ty _, .base (.bl _), kit_ty (by decide +kernel), ?_⟩
        refine ⟨_, rfl, ?_⟩
        refine iteF ?_
        refine ⟨_, rfl, ?_⟩
        refine ⟨_, rfl, ?_⟩
        refine ⟨rfl, ?_⟩
        refine ⟨_, rfl, ?_⟩
        refine Ow.ifneb (fun h76 => ?_) (fun h76 => ?_)
        · try simp only [decide_eq_true_eq, V.int.injEq] at h76
          exact ((by exact h76 (Iff.trans (by assumption) (by simp only [Ow.Tf_Kind.plain.injEq, Ow.Tf_Kind.signed.injEq, Ow.Tf_Kind.point.injEq, reduceCtorEq, Bool.false_eq_true] <;> omega))) : False).elim
        · try simp only [decide_eq_true_eq, V.int.injEq] at h76
          refine ⟨(SqL.of (h75 _ _ upd_same)), ?_⟩
          refine ⟨_, _, rfl, (SqT.of (h75 _ _ (Ow.at_new h_p_18 upd_same))), rfl, ?_⟩
          refine ⟨_, _, rfl, ?_⟩
          refine ⟨_, _, rfl, ?_⟩
          refine ⟨_, _, rfl, ?_⟩
          refine ⟨rfl, ?_⟩
          refine ⟨_, rfl, ?_⟩
          refine ⟨_, rfl, ?_⟩
          refine ⟨_, _, ((((Ow.Tf_Kind.point ke_w_6 ke_p_2)))), ((Ow.Tf_Kind.signed kd_w_2)), _, _, rfl, (h75 _ _ (Ow.at_new h_p_18 (Ow.at_new h_p_17 (Ow.at_new h_p_16 h73)))), (by walk_at "o2"), (h75 _ _ (Ow.at_new h_p_18 (Ow.at_new h_p_17 (Ow.at_new h_p_16 (h71 _ _ c0))))), (by walk_at "o2"), fun l_found_12 h77 Hn_28 h78 => ?_⟩
          refine ⟨_, rfl, ?_⟩
          refine ⟨_, _, _, _, true, rfl, .ty _, .base (.bl _), kit_ty (by decide +kernel), ?_⟩
          refine ⟨_, rfl, ?_⟩
          refine iteF ?_
          refine ⟨_, rfl, ?_⟩
          refine ⟨_, rfl, ?_⟩
          refine ⟨rfl, ?_⟩
          refine ⟨_, rfl, ?_⟩
          refine Ow.ifneb (fun h79 => ?_) (fun h79 => ?_)
          · try simp only [decide_eq_true_eq, V.int.injEq] at h79
            exact ((by exact h79 (Iff.trans (by assumption) (by simp only [Ow.Tf_Kind.plain.injEq, Ow.Tf_Kind.signed.injEq, Ow.Tf_Kind.point.injEq, reduceCtorEq, Bool.false_eq_true] <;> omega))) : False).elim
          · try simp only [decide_eq_true_eq, V.int.injEq] at h79
            refine ⟨(SqL.of (h78 _ _ (h75 _ _ upd_same))), ?_⟩
            refine ⟨_, rfl, ?_⟩
            refine ⟨_, rfl, ?_⟩
            refine ⟨_, ((Ow.Tf_Kind.signed kd_w_2)), rfl, (h78 _ _ (h75 _ _ (Ow.at_new h_p_18 (Ow.at_new h_p_17 (Ow.at_new h_p_16 (h71 _ _ c1)))))), (by walk_at "o2"), fun o_12 dx_12 Hn_29 h80 h81 h82 => ?_⟩
            refine ⟨_, _, ((Ow.Tf_Kind.signed kd_w_2)), ((((Ow.Tf_Kind.signed kd_w_2)))), _, _, rfl, (h80 _ _ (h78 _ _ (h75 _ _ (Ow.at_new h_p_18 (Ow.at_new h_p_17 (Ow.at_new h_p_16 (h71 _ _ c0))))))), (by walk_at "o2"), h82, (by walk_at "o2"), fun t_6 h83 Hn_30 h84 => ?_⟩
            refine ⟨_, _, rfl, rfl, ?_⟩
            refine Ow.eqd (by exact (by assumption : _ = true ↔ _ = _).mpr rfl) ?_
            exact kont _ (((((((h71.trans (Ow.same_new h_p_16)).trans (Ow.same_new h_p_17)).trans (Ow.same_new h_p_18)).trans h75).trans h78).trans h80).trans h84)
    · replace c0 : H kind = some (.ins T.k_Pointed.C dx_kind [(("width" : Str), V.int (kd_w_3)), (("point" : Str), V.int (kd_p))]) := c0
      replace c1 : H spec = some (.tup [.str ("point"), .int (kd_w_3), .int (kd_p)]) := c1
      have hk := Ow.krng c2
      have hl := Ow.kle c2
      have hg := Ow.kge c2
      simp only [Ow.KOk] at c2
      simp only [Ow.kw] at hk
      simp only [Ow.kle1] at hl
      simp only [Ow.kge1] at hg
      rcases ke with ⟨ke_w_7⟩ | ⟨ke_w_8⟩ | ⟨ke_w_9, ke_p_3⟩
      · replace c3 : H other = some (.tup [.str ("plain"), .int (ke_w_7), .int (0)]) := c3
        refine ⟨_, rfl, ?_⟩
        refine ⟨_, ((Ow.Tf_Kind.plain ke_w_7)), rfl, c3, (by walk_at "o2"), fun o_13 dx_13 Hn_31 h85 h86 h87 => ?_⟩
        refine ⟨_, rfl, ?_⟩
        refine ⟨_, rfl, ?_⟩
        refine ⟨_, rfl, ?_⟩
        refine ⟨_, rfl, ?_⟩
        refine ⟨(.tuple [PyData.str ("point"), PyData.int kd_w_3, PyData.int kd_p]), (.tuple [PyData.str ("plain"), PyData.int ke_w_7, PyData.int 0]), (.tup (SqT.of (h85 _ _ c1)) (.cons (.str _) (.cons (.int _) (.cons (.int _) .nil)))), (.tup (SqT.of (h85 _ _ c3)) (.cons (.str _) (.cons (.int _) (.cons (.int _) .nil)))), (by first | rfl | exact Ow.shp (by first | rfl | (simp only [PyData.canLay0, PyData.canLayAll0, Bool.and_true, Bool.true_and]; first | decide +kernel | assumption | (simp_all; done))) (by simp [PyData.depth, PyData.depthAll])), (by first | rfl | exact Ow.shp (by first | rfl | (simp only [PyData.canLay0, PyData.canLayAll0, Bool.and_true, Bool.true_and]; first | decide +kernel | assumption | (simp_all; done))) (by simp [PyData.depth, PyData.depthAll])), ?_⟩
        rw [show PyData.eqv ((.tuple [PyData.str ("point"), PyData.int kd_w_3, PyData.int kd_p])) ((.tuple [PyData.str ("plain"), PyData.int ke_w_7, PyData.int 0])) = decide (False) by (rw [Bool.eq_iff_iff]; simp [PyData.eqv, PyData.eqvAll, (by decide +kernel : ¬ (("point" : Str) = "plain"))])]
        refine ⟨by show 3 ≤ sizeLine; decide, fun p_19 h_p_19 => ?_⟩
        refine ⟨_, rfl, ?_⟩
        refine ⟨_, rfl, ?_⟩
        refine ⟨_, rfl, ?_⟩
        refine ⟨_, rfl, ?_⟩
        refine ⟨(.tuple [PyData.str ("point"), PyData.int kd_w_3, PyData.int kd_p]), (.tuple [PyData.str ("plain"), PyData.int ke_w_7, PyData.int 0]), (.tup (SqT.of (Ow.at_new h_p_19 (h85 _ _ c1))) (.cons (.str _) (.cons (.int _) (.cons (.int _) .nil)))), (.tup (SqT.of (Ow.at_new h_p_19 (h85 _ _ c3))) (.cons (.str _) (.cons (.int _) (.cons (.int _) .nil)))), (by first | rfl | exact Ow.shp (by first | rfl | (simp only [PyData.canLay0, PyData.canLayAll0, Bool.and_true, Bool.true_and]; first | decide +kernel | assumption | (simp_all; done))) (by simp [PyData.depth, PyData.depthAll])), (by first | rfl | exact Ow.shp (by first | rfl | (simp only [PyData.canLay0, PyData.canLayAll0, Bool.and_true, Bool.true_and]; first | decide +kernel | assumption | (simp_all; done))) (by simp [PyData.depth, PyData.depthAll])), ?_⟩
        rw [show PyData.eqv ((.tuple [PyData.str ("point"), PyData.int kd_w_3, PyData.int kd_p])) ((.tuple [PyData.str ("plain"), PyData.int ke_w_7, PyData.int 0])) = decide (False) by (rw [Bool.eq_iff_iff]; simp [PyData.eqv, PyData.eqvAll, (by decide +kernel : ¬ (("point" : Str) = "plain"))])]
        refine ⟨by show 3 ≤ sizeLine; decide, fun p_20 h_p_20 => ?_⟩
        refine ⟨by show 2 ≤ sizeLine; decide, fun p_21 h_p_21 => ?_⟩
        refine ⟨_, rfl, ⟨_, (SqL.of upd_same)⟩, ?_⟩
        refine Ow.un_start (K := K) (a := p_21) (xs := [.ref p_19, .ref p_20]) ?_
        refine ⟨(SqL.of upd_same), ?_⟩
        refine ⟨_, _, rfl, (SqT.of (Ow.at_new h_p_21 (Ow.at_new h_p_20 upd_same))), rfl, ?_⟩
        refine ⟨_, _, rfl, ?_⟩
        refine ⟨_, _, rfl, ?_⟩
        refine ⟨_, _, rfl, ?_⟩
        refine ⟨rfl, ?_⟩
        refine ⟨_, rfl, ?_⟩
        refine ⟨_, rfl, ?_⟩
        refine ⟨_, _, ((Ow.Tf_Kind.point kd_w_3 kd_p)), ((((Ow.Tf_Kind.plain ke_w_7)))), _, _, rfl, (Ow.at_new h_p_21 (Ow.at_new h_p_20 (Ow.at_new h_p_19 (h85 _ _ c0)))), (by walk_at "o2"), (Ow.at_new h_p_21 (Ow.at_new h_p_20 (Ow.at_new h_p_19 h87))), (by walk_at "o2"), fun l_found_13 h88 Hn_32 h89 => ?_⟩
        refine ⟨_, rfl, ?_⟩
        refine ⟨_, _, _, _, true, rfl, .ty _, .base (.bl _), kit_ty (by decide +kernel), ?_⟩
        refine ⟨_, rfl, ?_⟩
        refine iteF ?_
        refine ⟨_, rfl, ?_⟩
        refine ⟨_, rfl, ?_⟩
        refine ⟨rfl, ?_⟩
        refine ⟨_, rfl, ?_⟩
        refine Ow.ifneb (fun h90 => ?_) (fun h90 => ?_)
        · try simp only [decide_eq_true_eq, V.int.injEq] at h90
          exact ((by exact h90 (Iff.trans (by assumption) (by simp only [Ow.Tf_Kind.plain.injEq, Ow.Tf_Kind.signed.injEq, Ow.Tf_Kind.point.injEq, reduceCtorEq, Bool.false_eq_true] <;> omega))) : False).elim
        · try simp only [decide_eq_true_eq, V.int.injEq] at h90
          refine ⟨(SqL.of (h89 _ _ upd_same)), ?_⟩
          refine ⟨_, _, rfl, (SqT.of (h89 _ _ (Ow.at_new h_p_21 upd_same))), rfl, ?_⟩
          refine ⟨_, _, rfl, ?_⟩
          refine ⟨_, _, rfl, ?_⟩
          refine ⟨_, _, rfl, ?_⟩
          refine ⟨rfl, ?_⟩
          refine ⟨_, rfl, ?_⟩
          refine ⟨_, rfl, ?_⟩
          refine ⟨_, _, ((((Ow.Tf_Kind.plain ke_w_7)))), ((Ow.Tf_Kind.point kd_w_3 kd_p)), _, _, rfl, (h89 _ _ (Ow.at_new h_p_21 (Ow.at_new h_p_20 (Ow.at_new h_p_19 h87)))), (by walk_at "o2"), (h89 _ _ (Ow.at_new h_p_21 (Ow.at_new h_p_20 (Ow.at_new h_p_19 (h85 _ _ c0))))), (by walk_at "o2"), fun l_found_14 h91 Hn_33 h92 => ?_⟩
          refine ⟨_, rfl, ?_⟩
          refine ⟨_, _, _, _, true, rfl, .ty _, .base (.bl _), kit_ty (by decide +kernel), ?_⟩
          refine ⟨_, rfl, ?_⟩
          refine iteF ?_
          refine ⟨_, rfl, ?_⟩
          refine ⟨_, rfl, ?_⟩
          refine ⟨rfl, ?_⟩
          refine ⟨_, rfl, ?_⟩
          refine Ow.ifneb (fun h93 => ?_) (fun h93 => ?_)
          · try simp only [decide_eq_true_eq, V.int.injEq] at h93
            exact ((by exact h93 (Iff.trans (by assumption) (by simp only [Ow.Tf_Kind.plain.injEq, Ow.Tf_Kind.signed.injEq, Ow.Tf_Kind.point.injEq, reduceCtorEq, Bool.false_eq_true] <;> omega))) : False).elim
          · try simp only [decide_eq_true_eq, V.int.injEq] at h93
            refine ⟨(SqL.of (h92 _ _ (h89 _ _ upd_same))), ?_⟩
            refine ⟨_, rfl, ?_⟩
            refine ⟨_, rfl, ?_⟩
            refine ⟨_, ((Ow.Tf_Kind.point kd_w_3 kd_p)), rfl, (h92 _ _ (h89 _ _ (Ow.at_new h_p_21 (Ow.at_new h_p_20 (Ow.at_new h_p_19 (h85 _ _ c1)))))), (by walk_at "o2"), fun o_14 dx_14 Hn_34 h94 h95 h96 => ?_⟩
            refine ⟨_, _, ((Ow.Tf_Kind.point kd_w_3 kd_p)), ((((Ow.Tf_Kind.point kd_w_3 kd_p)))), _, _, rfl, (h94 _ _ (h92 _ _ (h89 _ _ (Ow.at_new h_p_21 (Ow.at_new h_p_20 (Ow.at_new h_p_19 (h85 _ _ c0))))))), (by walk_at "o2"), h96, (by walk_at "o2"), fun t_7 h97 Hn_35 h98 => ?_⟩
            refine ⟨_, _, rfl, rfl, ?_⟩
            refine Ow.eqd (by exact (by assumption : _ = true ↔ _ = _).mpr rfl) ?_
            exact kont _ (((((((h85.trans (Ow.same_new h_p_19)).trans (Ow.same_new h_p_20)).trans (Ow.same_new h_p_21)).trans h89).trans h92).trans h94).trans h98)
      · replace c3 : H other = some (.tup [.str ("signed"), .int (ke_w_8), .int (0)]) := c3
        refine ⟨_, rfl, ?_⟩
        refine ⟨_, ((Ow.Tf_Kind.signed ke_w_8)), rfl, c3, (by walk_at "o2"), fun o_15 dx_15 Hn_36 h99 h100 h101 => ?_⟩
        refine ⟨_, rfl, ?_⟩
        refine ⟨_, rfl, ?_⟩
        refine ⟨_, rfl, ?_⟩
        refine ⟨_, rfl, ?_⟩
        refine ⟨(.tuple [PyData.str ("point"), PyData.int kd_w_3, PyData.int kd_p]), (.tuple [PyData.str ("signed"), PyData.int ke_w_8, PyData.int 0]), (.tup (SqT.of (h99 _ _ c1)) (.cons (.str _) (.cons (.int _) (.cons (.int _) .nil)))), (.tup (SqT.of (h99 _ _ c3)) (.cons (.str _) (.cons (.int _) (.cons (.int _) .nil)))), (by first | rfl | exact Ow.shp (by first | rfl | (simp only [PyData.canLay0, PyData.canLayAll0, Bool.and_true, Bool.true_and]; first | decide +kernel | assumption | (simp_all; done))) (by simp [PyData.depth, PyData.depthAll])), (by first | rfl | exact Ow.shp (by first | rfl | (simp only [PyData.canLay0, PyData.canLayAll0, Bool.and_true, Bool.true_and]; first | decide +kernel | assumption | (simp_all; done))) (by simp [PyData.depth, PyData.depthAll])), ?_⟩
        rw [show PyData.eqv ((.tuple [PyData.str ("point"), PyData.int kd_w_3, PyData.int kd_p])) ((.tuple [PyData.str ("signed"), PyData.int ke_w_8, PyData.int 0])) = decide (False) by (rw [Bool.eq_iff_iff]; simp [PyData.eqv, PyData.eqvAll, (by decide +kernel : ¬ (("point" : Str) = "signed"))])]
        refine ⟨by show 3 ≤ sizeLine; decide, fun p_22 h_p_22 => ?_⟩
        refine ⟨_, rfl, ?_⟩
        refine ⟨_, rfl, ?_⟩
        refine ⟨_, rfl, ?_⟩
        refine ⟨_, rfl, ?_⟩
        refine ⟨(.tuple [PyData.str ("point"), PyData.int kd_w_3, PyData.int kd_p]), (.tuple [PyData.str ("signed"), PyData.int ke_w_8, PyData.int 0]), (.tup (SqT.of (Ow.at_new h_p_22 (h99 _ _ c1))) (.cons (.str _) (.cons (.int _) (.cons (.int _) .nil)))), (.tup (SqT.of (Ow.at_new h_p_22 (h99 _ _ c3))) (.cons (.str _) (.cons (.int _) (.cons (.int _) .nil)))), (by first | rfl | exact Ow.shp (by first | rfl | (simp only [PyData.canLay0, PyData.canLayAll0, Bool.and_true, Bool.true_and]; first | decide +kernel | assumption | (simp_all; done))) (by simp [PyData.depth, PyData.depthAll])), (by first | rfl | exact Ow.shp (by first | rfl | (simp only [PyData.canLay0, PyData.canLayAll0, Bool.and_true, Bool.true_and]; first | decide +kernel | assumption | (simp_all; done))) (by simp [PyData.depth, PyData.depthAll])), ?_⟩
        rw [show PyData.eqv ((.tuple [PyData.str ("point"), PyData.int kd_w_3, PyData.int kd_p])) ((.tuple [PyData.str ("signed"), PyData.int ke_w_8, PyData.int 0])) = decide (False) by (rw [Bool.eq_iff_iff]; simp [PyData.eqv, PyData.eqvAll, (by decide +kernel : ¬ (("point" : Str) = "signed"))])]
        refine ⟨by show 3 ≤ sizeLine; decide, fun p_23 h_p_23 => ?_⟩
        refine ⟨by show 2 ≤ sizeLine; decide, fun p_24 h_p_24 => ?_⟩
        refine ⟨_, rfl, ⟨_, (SqL.of upd_same)⟩, ?_⟩
        refine Ow.un_start (K := K) (a := p_24) (xs := [.ref p_22, .ref p_23]) ?_
        refine ⟨(SqL.of upd_same), ?_⟩
        refine ⟨_, _, rfl, (SqT.of (Ow.at_new h_p_24 (Ow.at_new h_p_23 upd_same))), rfl, ?_⟩
        refine ⟨_, _, rfl, ?_⟩
        refine ⟨_, _, rfl, ?_⟩
        refine ⟨_, _, rfl, ?_⟩
        refine ⟨rfl, ?_⟩
        refine ⟨_, rfl, ?_⟩
        refine ⟨_, rfl, ?_⟩
        refine ⟨_, _, ((Ow.Tf_Kind.point kd_w_3 kd_p)), ((((Ow.Tf_Kind.signed ke_w_8)))), _, _, rfl, (Ow.at_new h_p_24 (Ow.at_new h_p_23 (Ow.at_new h_p_22 (h99 _ _ c0)))), (by walk_at "o2"), (Ow.at_new h_p_24 (Ow.at_new h_p_23 (Ow.at_new h_p_22 h101))), (by walk_at "o2"), fun l_found_15 h102 Hn_37 h103 => ?_⟩
        refine ⟨_, rfl, ?_⟩
        refine ⟨_, _, _, _, true, rfl, .ty _, .base (.bl _), kit_ty (by decide +kernel), ?_⟩
        refine ⟨_, rfl, ?_⟩
        refine iteF ?_
        refine ⟨_, rfl, ?_⟩
        refine ⟨_, rfl, ?_⟩
        refine ⟨rfl, ?_⟩
        refine ⟨_, rfl, ?_⟩
        refine Ow.ifneb (fun h104 => ?_) (fun h104 => ?_)
        · try simp only [decide_eq_true_eq, V.int.injEq] at h104
          exact ((by exact h104 (Iff.trans (by assumption) (by simp only [Ow.Tf_Kind.plain.injEq, Ow.Tf_Kind.signed.injEq, Ow.Tf_Kind.point.injEq, reduceCtorEq, Bool.false_eq_true] <;> omega))) : False).elim
        · try simp only [decide_eq_true_eq, V.int.injEq] at h104
          refine ⟨(SqL.of (h103 _ _ upd_same)), ?_⟩
          refine ⟨_, _, rfl, (SqT.of (h103 _ _ (Ow.at_new h_p_24 upd_same))), rfl, ?_⟩
          refine ⟨_, _, rfl, ?_⟩
          refine ⟨_, _, rfl, ?_⟩
          refine ⟨_, _, rfl, ?_⟩
          refine ⟨rfl, ?_⟩
          refine ⟨_, rfl, ?_⟩
          refine ⟨_, rfl, ?_⟩
          refine ⟨_, _, ((((Ow.Tf_Kind.signed ke_w_8)))), ((Ow.Tf_Kind.point kd_w_3 kd_p)), _, _, rfl, (h103 _ _ (Ow.at_new h_p_24 (Ow.at_new h_p_23 (Ow.at_new h_p_22 h101)))), (by walk_at "o2"), (h103 _ _ (Ow.at_new h_p_24 (Ow.at_new h_p_23 (Ow.at_new h_p_22 (h99 _ _ c0))))), (by walk_at "o2"), fun l_found_16 h105 Hn_38 h106 => ?_⟩
          refine ⟨_, rfl, ?_⟩
          refine ⟨_, _, _, _, true, rfl, .ty _, .base (.bl _), kit_ty (by decide +kernel), ?_⟩
          refine ⟨_, rfl, ?_⟩
          refine iteF ?_
          refine ⟨_, rfl, ?_⟩
          refine ⟨_, rfl, ?_⟩
          refine ⟨rfl, ?_⟩
          refine ⟨_, rfl, ?_⟩
          refine Ow.ifneb (fun h107 => ?_) (fun h107 => ?_)
          · try simp only [decide_eq_true_eq, V.int.injEq] at h107
            exact ((by exact h107 (Iff.trans (by assumption) (by simp only [Ow.Tf_Kind.plain.injEq, Ow.Tf_Kind.signed.injEq, Ow.Tf_Kind.point.injEq, reduceCtorEq, Bool.false_eq_true] <;> omega))) : False).elim
          · try simp only [decide_eq_true_eq, V.int.injEq] at h107
            refine ⟨(SqL.of (h106 _ _ (h103 _ _ upd_same))), ?_⟩
            refine ⟨_, rfl, ?_⟩
            refine ⟨_, rfl, ?_⟩
            refine ⟨_, ((Ow.Tf_Kind.point kd_w_3 kd_p)), rfl, (h106 _ _ (h103 _ _ (Ow.at_new h_p_24 (Ow.at_new h_p_23 (Ow.at_new h_p_22 (h99 _ _ c1)))))), (by walk_at "o2"), fun o_16 dx_16 Hn_39 h108 h109 h110 => ?_⟩
            refine ⟨_, _, ((Ow.Tf_Kind.point kd_w_3 kd_p)), ((((Ow.Tf_Kind.point kd_w_3 kd_p)))), _, _, rfl, (h108 _ _ (h106 _ _ (h103 _ _ (Ow.at_new h_p_24 (Ow.at_new h_p_23 (Ow.at_new h_p_22 (h99 _ _ c0))))))), (by walk_at "o2"), h110, (by walk_at "o2"), fun t_8 h111 Hn_40 h112 => ?_⟩
            refine ⟨_, _, rfl, rfl, ?_⟩
            refine Ow.eqd (by exact (by assumption : _ = true ↔ _ = _).mpr rfl) ?_
            exact kont _ (((((((h99.trans (Ow.same_new h_p_22)).trans (Ow.same_new h_p_23)).trans (Ow.same_new h_p_24)).trans h103).trans h106).trans h108).trans h112)
      · replace c3 : H other = some (.tup [.str ("point"), .int (ke_w_9), .int (ke_p_3)]) := c3
        refine ⟨_, rfl, ?_⟩
        refine ⟨_, ((Ow.Tf_Kind.point ke_w_9 ke_p_3)), rfl, c3, (by walk_at "o2"), fun o_17 dx_17 Hn_41 h113 h114 h115 => ?_⟩
        refine ⟨_, rfl, ?_⟩
        refine ⟨_, rfl, ?_⟩
        refine ⟨_, rfl, ?_⟩
        refine ⟨_, rfl, ?_⟩
        refine ⟨(.tuple [PyData.str ("point"), PyData.int kd_w_3, PyData.int kd_p]), (.tuple [PyData.str ("point"), PyData.int ke_w_9, PyData.int ke_p_3]), (.tup (SqT.of (h113 _ _ c1)) (.cons (.str _) (.cons (.int _) (.cons (.int _) .nil)))), (.tup (SqT.of (h113 _ _ c3)) (.cons (.str _) (.cons (.int _) (.cons (.int _) .nil)))), (by first | rfl | exact Ow.shp (by first | rfl | (simp only [PyData.canLay0, PyData.canLayAll0, Bool.and_true, Bool.true_and]; first | decide +kernel | assumption | (simp_all; done))) (by simp [PyData.depth, PyData.depthAll])), (by first | rfl | exact Ow.shp (by first | rfl | (simp only [PyData.canLay0, PyData.canLayAll0, Bool.and_true, Bool.true_and]; first | decide +kernel | assumption | (simp_all; done))) (by simp [PyData.depth, PyData.depthAll])), ?_⟩
        rw [show PyData.eqv ((.tuple [PyData.str ("point"), PyData.int kd_w_3, PyData.int kd_p])) ((.tuple [PyData.str ("point"), PyData.int ke_w_9, PyData.int ke_p_3])) = decide (kd_w_3 = ke_w_9 ∧ kd_p = ke_p_3) by (rw [Bool.eq_iff_iff]; simp [PyData.eqv, PyData.eqvAll])]
        refine ⟨by show 3 ≤ sizeLine; decide, fun p_25 h_p_25 => ?_⟩
        refine ⟨_, rfl, ?_⟩
        refine ⟨_, rfl, ?_⟩
        refine ⟨_, rfl, ?_⟩
        refine ⟨_, rfl, ?_⟩
        refine ⟨(.tuple [PyData.str ("point"), PyData.int kd_w_3, PyData.int kd_p]), (.tuple [PyData.str ("point"), PyData.int ke_w_9, PyData.int ke_p_3]), (.tup (SqT.of (Ow.at_new h_p_25 (h113 _ _ c1))) (.cons (.str _) (.cons (.int _) (.cons (.int _) .nil)))), (.tup (SqT.of (Ow.at_new h_p_25 (h113 _ _ c3))) (.cons (.str _) (.cons (.int _) (.cons (.int _) .nil)))), (by first | rfl | exact Ow.shp (by first | rfl | (simp only [PyData.canLay0, PyData.canLayAll0, Bool.and_true, Bool.true_and]; first | decide +kernel | assumption | (simp_all; done))) (by simp [PyData.depth, PyData.depthAll])), (by first | rfl | exact Ow.shp (by first | rfl | (simp only [PyData.canLay0, PyData.canLayAll0, Bool.and_true, Bool.true_and]; first | decide +kernel | assumption | (simp_all; done))) (by simp [PyData.depth, PyData.depthAll])), ?_⟩
        rw [show PyData.eqv ((.tuple [PyData.str ("point"), PyData.int kd_w_3, PyData.int kd_p])) ((.tuple [PyData.str ("point"), PyData.int ke_w_9, PyData.int ke_p_3])) = decide (kd_w_3 = ke_w_9 ∧ kd_p = ke_p_3) by (rw [Bool.eq_iff_iff]; simp [PyData.eqv, PyData.eqvAll])]
        refine ⟨by show 3 ≤ sizeLine; decide, fun p_26 h_p_26 => ?_⟩
        refine ⟨by show 2 ≤ sizeLine; decide, fun p_27 h_p_27 => ?_⟩
        refine ⟨_, rfl, ⟨_, (SqL.of upd_same)⟩, ?_⟩
        refine Ow.un_start (K := K) (a := p_27) (xs := [.ref p_25, .ref p_26]) ?_
        refine ⟨(SqL.of upd_same), ?_⟩
        refine ⟨_, _, rfl, (SqT.of (Ow.at_new h_p_27 (Ow.at_new h_p_26 upd_same))), rfl, ?_⟩
        refine ⟨_, _, rfl, ?_⟩
        refine ⟨_, _, rfl, ?_⟩
        refine ⟨_, _, rfl, ?_⟩
        refine ⟨rfl, ?_⟩
        refine ⟨_, rfl, ?_⟩
        refine ⟨_, rfl, ?_⟩
        refine ⟨_, _, ((Ow.Tf_Kind.point kd_w_3 kd_p)), ((((Ow.Tf_Kind.point ke_w_9 ke_p_3)))), _, _, rfl, (Ow.at_new h_p_27 (Ow.at_new h_p_26 (Ow.at_new h_p_25 (h113 _ _ c0)))), (by walk_at "o2"), (Ow.at_new h_p_27 (Ow.at_new h_p_26 (Ow.at_new h_p_25 h115))), (by walk_at "o2"), fun l_found_17 h116 Hn_42 h117 => ?_⟩
        refine ⟨_, rfl, ?_⟩
        refine ⟨_, _, _, _, true, rfl, .ty _, .base (.bl _), kit_ty (by decide +kernel), ?_⟩
        refine ⟨_, rfl, ?_⟩
        refine iteF ?_
        refine ⟨_, rfl, ?_⟩
        refine ⟨_, rfl, ?_⟩
        refine ⟨rfl, ?_⟩
        refine ⟨_, rfl, ?_⟩
        refine Ow.ifneb (fun h118 => ?_) (fun h118 => ?_)
        · try simp only [decide_eq_true_eq, V.int.injEq] at h118
          exact ((by exact h118 (Iff.trans (by assumption) (by simp only [Ow.Tf_Kind.plain.injEq, Ow.Tf_Kind.signed.injEq, Ow.Tf_Kind.point.injEq, reduceCtorEq, Bool.false_eq_true] <;> omega))) : False).elim
        · try simp only [decide_eq_true_eq, V.int.injEq] at h118
          refine ⟨(SqL.of (h117 _ _ upd_same)), ?_⟩
          refine ⟨_, _, rfl, (SqT.of (h117 _ _ (Ow.at_new h_p_27 upd_same))), rfl, ?_⟩
          refine ⟨_, _, rfl, ?_⟩
          refine ⟨_, _, rfl, ?_⟩
          refine ⟨_, _, rfl, ?_⟩
          refine ⟨rfl, ?_⟩
          refine ⟨_, rfl, ?_⟩
          refine ⟨_, rfl, ?_⟩
          refine ⟨_, _, ((((Ow.Tf_Kind.point ke_w_9 ke_p_3)))), ((Ow.Tf_Kind.point kd_w_3 kd_p)), _, _, rfl, (h117 _ _ (Ow.at_new h_p_27 (Ow.at_new h_p_26 (Ow.at_new h_p_25 h115)))), (by walk_at "o2"), (h117 _ _ (Ow.at_new h_p_27 (Ow.at_new h_p_26 (Ow.at_new h_p_25 (h113 _ _ c0))))), (by walk_at "o2"), fun l_found_18 h119 Hn_43 h120 => ?_⟩
          refine ⟨_, rfl, ?_⟩
          refine ⟨_, _, _, _, true, rfl, .ty _, .base (.bl _), kit_ty (by decide +kernel), ?_⟩
          refine ⟨_, rfl, ?_⟩
          refine iteF ?_
          refine ⟨_, rfl, ?_⟩
          refine ⟨_, rfl, ?_⟩
          refine ⟨rfl, ?_⟩
          refine ⟨_, rfl, ?_⟩
          refine Ow.ifneb (fun h121 => ?_) (fun h121 => ?_)
          · try simp only [decide_eq_true_eq, V.int.injEq] at h121
            exact ((by exact h121 (Iff.trans (by assumption) (by simp only [Ow.Tf_Kind.plain.injEq, Ow.Tf_Kind.signed.injEq, Ow.Tf_Kind.point.injEq, reduceCtorEq, Bool.false_eq_true] <;> omega))) : False).elim
          · try simp only [decide_eq_true_eq, V.int.injEq] at h121
            refine ⟨(SqL.of (h120 _ _ (h117 _ _ upd_same))), ?_⟩
            refine ⟨_, rfl, ?_⟩
            refine ⟨_, rfl, ?_⟩
            refine ⟨_, ((Ow.Tf_Kind.point kd_w_3 kd_p)), rfl, (h120 _ _ (h117 _ _ (Ow.at_new h_p_27 (Ow.at_new h_p_26 (Ow.at_new h_p_25 (h113 _ _ c1)))))), (by walk_at "o2"), fun o_18 dx_18 Hn_44 h122 h123 h124 => ?_⟩
            refine ⟨_, _, ((Ow.Tf_Kind.point kd_w_3 kd_p)), ((((Ow.Tf_Kind.point kd_w_3 kd_p)))), _, _, rfl, (h122 _ _ (h120 _ _ (h117 _ _ (Ow.at_new h_p_27 (Ow.at_new h_p_26 (Ow.at_new h_p_25 (h113 _ _ c0))))))), (by walk_at "o2"), h124, (by walk_at "o2"), fun t_9 h125 Hn_45 h126 => ?_⟩
            refine ⟨_, _, rfl, rfl, ?_⟩
            refine Ow.eqd (by exact (by assumption : _ = true ↔ _ = _).mpr rfl) ?_
            exact kont _ (((((((h113.trans (Ow.same_new h_p_25)).trans (Ow.same_new h_p_26)).trans (Ow.same_new h_p_27)).trans h117).trans h120).trans h122).trans h126)
theorem ok_law (T : Tx K mg) : FnOk P w K mg base CX0 9 T.d_law.f T.d_law.fd ["_law_script"] (sp_law K) := by
  refine T.d_law.F.ok sc_law (fun vs H Q E h => ?_) (fun cdv A outer s H vs Q E hr h => ?_)
  · obtain ⟨script, ns, rfl, _⟩ := h
    rfl
  · obtain ⟨script, ns, rfl, c0, c1, kont⟩ := h
    refine ⟨_, (pss_cons (ps_for PassesOwn.never rfl (pi_range1 (by rfl) T.z_range (pa_cons (Ow.pe_nmi (pe_callB (call_max2 rfl) (by rfl) T.z_max PyProof.Rows.boot_max (pa_cons pe_int (pa_cons (Ow.pe_nmi (pe_callB (call_min2 rfl) (by rfl) T.z_min PyProof.Rows.boot_min (pa_cons (Ow.pe_nmi (pe_callB call_len_seq (by rfl) T.z_len PySem.boot_len (pa_cons (pv 0) pa_nil))) (pa_cons pe_int pa_nil)))) pa_nil)))) pa_nil)) (pg_name (i := 1) sc_law.nd rfl (Or.inl rfl)) (pss_cons (ps_set (i := 2) sc_law.nd rfl (Or.inr rfl) (pe_call (Ow.ok_l_box T) (hr.mono (by decide : 1 ≤ 8)) (by rfl) T.d_l_box.m T.d_l_box.F.kp T.d_l_box.b .nil pass0 (pa_cons (pe_call (Ow.ok_l_cell T) (hr.mono (by decide : 1 ≤ 8)) (by rfl) T.d_l_cell.m T.d_l_cell.F.kp T.d_l_cell.b .nil pass0 (pa_cons (pv 0) (pa_cons (pv 1) pa_nil))) pa_nil)))
        (pss_cons (ps_set (i := 3) sc_law.nd rfl (Or.inr rfl) (pe_call (Ow.ok_l_spec T) (hr.mono (by decide : 2 ≤ 8)) (by rfl) T.d_l_spec.m T.d_l_spec.F.kp T.d_l_spec.b .nil pass0 (pa_cons (pv 2) pa_nil)))
        (pss_cons (ps_set (i := 4) sc_law.nd rfl (Or.inl rfl) (pe_call (Ow.ok_l_kind T) (hr.mono (by decide : 7 ≤ 8)) (by rfl) T.d_l_kind.m T.d_l_kind.F.kp T.d_l_kind.b .nil pass0 (pa_cons (pv 3) pa_nil)))
        (pss_cons (ps_setLc (i := 5) (g := gName 9) (tt := tYes) rfl sc_law.nd rfl rfl (sw_true rfl rfl rfl (by decide +kernel)) (pi_range1 (by rfl) T.z_range (pa_cons pe_int pa_nil)) (own := [("_law_j", 9)]) (blkOk_by (N := ["_law_script", "_law_k", "_law_box_here", "_law_spec_here", "_law_kind_here", "_law_words", "_law_near", "_law_other", "_law_word", "_law_j"]) (sc := defScope s_law) (by decide +kernel)) (fun _ _ _ _ _ => (pg_name (i := 9) sc_law.nd rfl (Or.inl rfl))) (fun _ _ _ _ _ => pts_nil) (fun _ _ _ _ _ => (pe_call (Ow.ok_l_bits T) (hr.mono (by decide : 2 ≤ 8)) (by rfl) T.d_l_bits.m T.d_l_bits.F.kp T.d_l_bits.b .nil pass0 (pa_cons (pv 2) (pa_cons (pe_ix (Ow.ix_tupK (K := K) rfl) (pv 3) pe_int (fun _ _ => rfl)) pa_nil)))))
        (pss_cons (ps_set (i := 6) sc_law.nd rfl (Or.inl rfl) (pe_lst (pa_cons (pv 3) (pa_cons (pe_tup (pa_cons pe_str (pa_cons (pe_ix ix_tup (pv 3) pe_int (fun _ _ => rfl)) (pa_cons pe_int pa_nil)))) (pa_cons (pe_tup (pa_cons pe_str (pa_cons (pe_ix ix_tup (pv 3) pe_int (fun _ _ => rfl)) (pa_cons (pe_op op_add pe_int (pe_op Ow.op_modN (pe_ix ix_tup (pv 3) pe_int (fun _ _ => rfl)) (pe_op op_sub (pe_ix ix_tup (pv 3) pe_int (fun _ _ => rfl)) pe_int))) pa_nil)))) (pa_cons (pe_call (Ow.ok_l_spec T) (hr.mono (by decide : 2 ≤ 8)) (by rfl) T.d_l_spec.m T.d_l_spec.F.kp T.d_l_spec.b .nil pass0 (pa_cons (pv 2) pa_nil)) pa_nil))))))
        (pss_cons (ps_for PassesOwn.never rfl (pi_list (pv 6)) (pg_name (i := 7) sc_law.nd rfl (Or.inl rfl)) (pss_one (ps_if (PW.pt (pw_or (pt_not (pt_val (pe_call (Ow.ok_l_about T) (hr.mono (by decide : 2 ≤ 8)) (by rfl) T.d_l_about.m T.d_l_about.F.kp T.d_l_about.b .nil pass0 (pa_cons (pv 4) (pa_cons (pv 3) pa_nil))))) (pw_or1 (pt_not (pt_val (pe_call (Ow.ok_l_same_right T) (hr.mono (by decide : 8 ≤ 8)) (by rfl) T.d_l_same_right.m T.d_l_same_right.F.kp T.d_l_same_right.b .nil pass0 (pa_cons (pv 4) (pa_cons (pv 3) (pa_cons (pv 7) pa_nil))))))))) (pss_one (ps_ret pe_bl)) pss_nil)))
        (pss_cons (ps_for PassesOwn.never rfl (pi_list (pe_op op_cat (pe_op op_cat (pv 5) (pe_slice sl_list (pv 5) po_none (po_some pe_int))) (pe_callTy call_list_of (by rfl) T.z_list (by decide +kernel) (pa_cons (pe_call (Ow.ok_l_words_at T) (hr.mono (by decide : 1 ≤ 8)) (by rfl) T.d_l_words_at.m T.d_l_words_at.F.kp T.d_l_words_at.b .nil pass0 (pa_cons (pe_ix ix_tup (pv 3) pe_int (fun _ _ => rfl)) pa_nil)) pa_nil)))) (pg_name (i := 8) sc_law.nd rfl (Or.inl rfl)) (pss_one (ps_if (pt_not (pt_val (pe_call (Ow.ok_l_word_right T) (hr.mono (by decide : 5 ≤ 8)) (by rfl) T.d_l_word_right.m T.d_l_word_right.F.kp T.d_l_word_right.b .nil pass0 (pa_cons (pv 4) (pa_cons (pv 3) (pa_cons (pv 8) pa_nil)))))) (pss_one (ps_ret pe_bl)) pss_nil)))
        (pss_one (ps_if (pt_not (pt_val (pe_call (Ow.ok_l_about T) (hr.mono (by decide : 2 ≤ 8)) (by rfl) T.d_l_about.m T.d_l_about.F.kp T.d_l_about.b .nil pass0 (pa_cons (pv 4) (pa_cons (pv 3) pa_nil))))) (pss_one (ps_ret pe_bl)) pss_nil))))))))))
        (pss_one (ps_ret pe_bl))), ?_⟩
    refine ⟨_, rfl, ?_⟩
    refine ⟨_, _, rfl, .inl c0, ?_⟩
    refine ⟨_, rfl, fun len h_len => ?_⟩
    rw [List.length_map] at h_len
    refine ⟨_, _, rfl, ?_⟩
    refine ⟨_, rfl, fun m h_m => ?_⟩
    have hm_m := Ow.min_ite h_m
    refine ⟨_, _, rfl, ?_⟩
    refine ⟨_, rfl, fun m_2 h_m_2 => ?_⟩
    have hm_m_2 := Ow.max_ite h_m_2
    refine ⟨_, rfl, (by walk_at "o2"), (by walk_at "o2"), ?_⟩
    refine for_range (lo := 0) (fun ixv σ2 H2 => ∃ (v_1 : Option V) (v_2 : Option V) (v_3 : Option V) (v_4 : Option V) (v_5 : Option V) (v_6 : Option V) (v_7 : Option V) (v_8 : Option V) (v_9 : Option V), σ2 = [some (.ref script), v_1, v_2, v_3, v_4, v_5, v_6, v_7, v_8, v_9] ∧ Same H H2 ∧ True) ⟨_, _, _, _, _, _, _, _, _, rfl, (Same.refl _), trivial⟩ ?_ ?_
    · rintro i _ Hn h1 ⟨_, _, _, _, _, _, _, _, _, rfl, h2, _⟩
      refine Ow.gturn (fun l_k h_l_k => ?_)
      refine ⟨_, rfl, ?_⟩
      refine ⟨_, rfl, ?_⟩
      refine ⟨_, _, _, rfl, (Ow.seq h2 c0), (by walk_at "o2"), fun t => ?_⟩
      refine ⟨_, rfl, fun a m_3 p h_p => ?_⟩
      refine ⟨_, rfl, ?_⟩
      refine ⟨_, _, _, _, rfl, upd_same, fun kd a2 c2 h3 p_2 Hn_2 h4 h5 h6 h7 => ?_⟩
      refine ⟨_, rfl, ?_⟩
      refine ⟨_, kd, rfl, h7, (by walk_at "o2"), fun o dx Hn_3 h8 h9 h10 => ?_⟩
      have hti : Ow.ti1_Kind kd = Ow.kw kd := by cases kd <;> rfl
      have htj : Ow.ti2_Kind kd = Ow.kp kd := by cases kd <;> rfl
      have hkr := Ow.krng (kd := kd) (by assumption)
      have hkq := Ow.kp_rng (kd := kd) (by assumption)
      refine ⟨_, rfl, (by walk_at "o2"), (by walk_at "o2"), ?_⟩
      intro D h_D
      refine lc_range (lo := 0) (fun ixv H2 => ∃ (xs : List Int) (a9 : Int) (m9 : Int) (c9 : Int), Same H H2 ∧ H2 D = some (.lst (xs.map V.int)) ∧ H2 p = some (.lst [.int (a9), .int (m9), .int (c9)]) ∧ H2 p_2 = some (.tup (Ow.tl_Kind kd)) ∧ H2 o = some (.ins (Ow.cls_Kind T ((Ow.kn_Kind kd))) dx (Ow.fl_Kind kd)) ∧ (xs.length = ixv) ∧ (∀ x ∈ xs, 0 ≤ x ∧ x < 2 ^ (Ow.kw kd).toNat) ∧ True) ⟨[], _, _, _, (((Ow.same_frame (h2.trans (Ow.same_new h_p)) h4 (Same.free h2 h_p)).trans h8).trans (Ow.same_new h_D)), (by first | exact upd_same | rfl), (Ow.at_new h_D (h8 _ _ h5)), (Ow.at_new h_D (h8 _ _ h7)), (Ow.at_new h_D h10), rfl, (by exact fun _ h => nomatch h), trivial⟩ ?_ ?_
      · rintro i_2 Hn_4 h11 ⟨xs, a9, m9, c9, h12, h13, h14, h15, h16, h17, h18, _⟩
        refine Ow.gturn (fun l_j h_l_j => ?_)
        refine ⟨rfl, ?_⟩
        refine Ow.tyes ?_
        refine iteT ?_
        refine ⟨_, rfl, ?_⟩
        refine ⟨_, rfl, ?_⟩
        refine ⟨_, _, _, .int (Ow.ti1_Kind kd), rfl, rfl, (SqT.of h15), (by cases kd <;> rfl), ?_⟩
        refine ⟨_, _, _, _, _, rfl, h14, (by walk_at "o2"), (by walk_at "o2"), fun ap a2_2 c2_2 h19 h20 Hn_5 h21 h22 => ?_⟩
        refine ⟨_, (h21 _ _ (Ow.ne_sym (ne_of_none (h8 _ _ h5) h_D)) h13), (Ow.szl (by rw [List.length_map]; first | (walk_at "o2"))), ?_⟩
        exact ⟨(xs ++ [ap]), _, _, _, (Ow.same_mut (Ow.same_frame h12 h21 (Same.free h2 h_p)) (Same.free ((Ow.same_frame (h2.trans (Ow.same_new h_p)) h4 (Same.free h2 h_p)).trans h8) h_D)), (Ow.ap_ints upd_same), (Ow.at_mut (Ow.ne_sym (Ow.ne_sym (ne_of_none (h8 _ _ h5) h_D))) h22), (Ow.at_mutT (h21 _ _ (Ow.ne_sym (ne_of_none (h8 _ _ h5) h_D)) h13) (Ow.at_fmT h21 h14 h15)), (Ow.at_mut (Ow.ne_sym (Ow.ne_sym (ne_of_none h10 h_D))) (h21 _ _ (Ow.ne_sym (ne_of_none h5 h9)) h16)), (by rw [List.length_append, List.length_singleton]; omega), (by exact Ow.all_snoc (by assumption) ⟨by assumption, by rw [← hti]; assumption⟩), trivial⟩
      · rintro Hn_6 ⟨xs_2, a9_2, m9_2, c9_2, h23, h24, h25, h26, h27, h28, h29, _⟩
        refine ⟨_, rfl, ?_⟩
        refine ⟨_, rfl, ?_⟩
        refine ⟨_, _, _, .int (Ow.ti1_Kind kd), rfl, rfl, (SqT.of h26), (by cases kd <;> rfl), ?_⟩
        refine ⟨by show 3 ≤ sizeLine; decide, fun p_3 h_p_3 => ?_⟩
        refine ⟨_, rfl, ?_⟩
        refine ⟨_, _, _, .int (Ow.ti1_Kind kd), rfl, rfl, (SqT.of (Ow.at_new h_p_3 h26)), (by cases kd <;> rfl), ?_⟩
        refine ⟨_, rfl, ?_⟩
        refine ⟨_, _, _, .int (Ow.ti2_Kind kd), rfl, rfl, (SqT.of (Ow.at_new h_p_3 h26)), (by cases kd <;> rfl), ?_⟩
        refine ⟨_, rfl, ?_⟩
        refine ⟨_, _, _, .int (Ow.ti1_Kind kd), rfl, rfl, (SqT.of (Ow.at_new h_p_3 h26)), (by cases kd <;> rfl), ?_⟩
        refine ⟨_, _, rfl, rfl, ?_⟩
        refine ⟨_, _, rfl, rfl, (by walk_at "o2"), fun r h_r h0_r h1_r => ?_⟩
        refine ⟨_, _, rfl, rfl, ?_⟩
        refine ⟨by show 3 ≤ sizeLine; decide, fun p_4 h_p_4 => ?_⟩
        refine ⟨_, rfl, ?_⟩
        refine ⟨_, _, _, _, rfl, (Ow.at_new h_p_4 (Ow.at_new h_p_3 h25)), fun kd_2 a2_3 c2_3 h30 p_5 Hn_7 h31 h32 h33 h34 => ?_⟩
        refine ⟨by show 4 ≤ sizeLine; decide, fun p_6 h_p_6 => ?_⟩
        refine ⟨_, rfl, ?_⟩
        refine ⟨_, rfl, ⟨_, (SqL.of upd_same)⟩, ?_⟩
        refine Ow.un_start (K := K) (a := p_6) (xs := [.ref p_2, .ref p_3, .ref p_4, .ref p_5]) ?_
        refine ⟨(SqL.of upd_same), ?_⟩
        refine ⟨_, rfl, ?_⟩
        refine ⟨_, rfl, ?_⟩
        refine ⟨_, _, kd, _, rfl, (Ow.at_new h_p_6 (h31 _ _ (Ow.ne_sym (ne_of_none h5 h9)) (Ow.at_new h_p_4 (Ow.at_new h_p_3 h27)))), (Ow.at_new h_p_6 (Ow.at_fmT h31 (Ow.at_new h_p_4 (Ow.at_new h_p_3 h25)) (Ow.at_new h_p_4 (Ow.at_new h_p_3 h26)))), (by walk_at "o2"), fun Hn_8 h35 => ?_⟩
        refine ⟨_, rfl, ?_⟩
        refine iteF ?_
        refine ⟨_, rfl, ?_⟩
        refine ⟨_, rfl, ?_⟩
        refine ⟨_, rfl, ?_⟩
        refine ⟨_, _, _, kd, kd, _, rfl, (h35 _ _ (Ow.at_new h_p_6 (h31 _ _ (Ow.ne_sym (ne_of_none h5 h9)) (Ow.at_new h_p_4 (Ow.at_new h_p_3 h27))))), (h35 _ _ (Ow.at_new h_p_6 (Ow.at_fmT h31 (Ow.at_new h_p_4 (Ow.at_new h_p_3 h25)) (Ow.at_new h_p_4 (Ow.at_new h_p_3 h26))))), (by walk_at "o2"), (h35 _ _ (Ow.at_new h_p_6 (Ow.at_fmT h31 (Ow.at_new h_p_4 (Ow.at_new h_p_3 h25)) (Ow.at_new h_p_4 (Ow.at_new h_p_3 h26))))), (by walk_at "o2"), fun Hn_9 h36 => ?_⟩
        refine ⟨_, rfl, ?_⟩
        refine iteF ?_
        refine ⟨(SqL.of (h36 _ _ (h35 _ _ upd_same))), ?_⟩
        refine ⟨_, rfl, ?_⟩
        refine ⟨_, rfl, ?_⟩
        refine ⟨_, _, kd, _, rfl, (h36 _ _ (h35 _ _ (Ow.at_new h_p_6 (h31 _ _ (Ow.ne_sym (ne_of_none h5 h9)) (Ow.at_new h_p_4 (Ow.at_new h_p_3 h27)))))), (h36 _ _ (h35 _ _ (Ow.at_new h_p_6 (Ow.at_fmT h31 (Ow.at_new h_p_4 (Ow.at_new h_p_3 h25)) (Ow.at_new h_p_4 (Ow.at_new h_p_3 h26)))))), (by walk_at "o2"), fun Hn_10 h37 => ?_⟩
        refine ⟨_, rfl, ?_⟩
        refine iteF ?_
        refine ⟨_, rfl, ?_⟩
        refine ⟨_, rfl, ?_⟩
        refine ⟨_, rfl, ?_⟩
        refine ⟨_, _, _, kd, ((Ow.Tf_Kind.signed ((Ow.ti1_Kind kd)))), _, rfl, (h37 _ _ (h36 _ _ (h35 _ _ (Ow.at_new h_p_6 (h31 _ _ (Ow.ne_sym (ne_of_none h5 h9)) (Ow.at_new h_p_4 (Ow.at_new h_p_3 h27))))))), (h37 _ _ (h36 _ _ (h35 _ _ (Ow.at_new h_p_6 (Ow.at_fmT h31 (Ow.at_new h_p_4 (Ow.at_new h_p_3 h25)) (Ow.at_new h_p_4 (Ow.at_new h_p_3 h26))))))), (by walk_at "o2"), (h37 _ _ (h36 _ _ (h35 _ _ (Ow.at_new h_p_6 (Ow.at_fmT h31 (Ow.at_new h_p_4 (Ow.at_new h_p_3 h25)) (Ow.at_new h_p_4 upd_same)))))), (by walk_at "o2"), fun Hn_11 h38 => ?_⟩
        refine ⟨_, rfl, ?_⟩
        refine iteF ?_
        refine ⟨(SqL.of (h38 _ _ (h37 _ _ (h36 _ _ (h35 _ _ upd_same))))), ?_⟩
        refine ⟨_, rfl, ?_⟩
        refine ⟨_, rfl, ?_⟩
        refine ⟨_, _, kd, _, rfl, (h38 _ _ (h37 _ _ (h36 _ _ (h35 _ _ (Ow.at_new h_p_6 (h31 _ _ (Ow.ne_sym (ne_of_none h5 h9)) (Ow.at_new h_p_4 (Ow.at_new h_p_3 h27)))))))), (h38 _ _ (h37 _ _ (h36 _ _ (h35 _ _ (Ow.at_new h_p_6 (Ow.at_fmT h31 (Ow.at_new h_p_4 (Ow.at_new h_p_3 h25)) (Ow.at_new h_p_4 (Ow.at_new h_p_3 h26)))))))), (by walk_at "o2"), fun Hn_12 h39 => ?_⟩
        refine ⟨_, rfl, ?_⟩
        refine iteF ?_
        refine ⟨_, rfl, ?_⟩
        refine ⟨_, rfl, ?_⟩
        refine ⟨_, rfl, ?_⟩
        refine ⟨_, _, _, kd, ((Ow.Tf_Kind.point ((Ow.ti1_Kind kd)) (1 + r))), _, rfl, (h39 _ _ (h38 _ _ (h37 _ _ (h36 _ _ (h35 _ _ (Ow.at_new h_p_6 (h31 _ _ (Ow.ne_sym (ne_of_none h5 h9)) (Ow.at_new h_p_4 (Ow.at_new h_p_3 h27))))))))), (h39 _ _ (h38 _ _ (h37 _ _ (h36 _ _ (h35 _ _ (Ow.at_new h_p_6 (Ow.at_fmT h31 (Ow.at_new h_p_4 (Ow.at_new h_p_3 h25)) (Ow.at_new h_p_4 (Ow.at_new h_p_3 h26))))))))), (by walk_at "o2"), (h39 _ _ (h38 _ _ (h37 _ _ (h36 _ _ (h35 _ _ (Ow.at_new h_p_6 (Ow.at_fmT h31 (Ow.at_new h_p_4 (Ow.at_new h_p_3 h25)) upd_same))))))), (by walk_at "o2"), fun Hn_13 h40 => ?_⟩
        refine ⟨_, rfl, ?_⟩
        refine iteF ?_
        refine ⟨(SqL.of (h40 _ _ (h39 _ _ (h38 _ _ (h37 _ _ (h36 _ _ (h35 _ _ upd_same))))))), ?_⟩
        refine ⟨_, rfl, ?_⟩
        refine ⟨_, rfl, ?_⟩
        refine ⟨_, _, kd, _, rfl, (h40 _ _ (h39 _ _ (h38 _ _ (h37 _ _ (h36 _ _ (h35 _ _ (Ow.at_new h_p_6 (h31 _ _ (Ow.ne_sym (ne_of_none h5 h9)) (Ow.at_new h_p_4 (Ow.at_new h_p_3 h27)))))))))), (h40 _ _ (h39 _ _ (h38 _ _ (h37 _ _ (h36 _ _ (h35 _ _ (Ow.at_new h_p_6 (Ow.at_fmT h31 (Ow.at_new h_p_4 (Ow.at_new h_p_3 h25)) (Ow.at_new h_p_4 (Ow.at_new h_p_3 h26)))))))))), (by walk_at "o2"), fun Hn_14 h41 => ?_⟩
        refine ⟨_, rfl, ?_⟩
        refine iteF ?_
        refine ⟨_, rfl, ?_⟩
        refine ⟨_, rfl, ?_⟩
        refine ⟨_, rfl, ?_⟩
        refine ⟨_, _, _, kd, kd_2, _, rfl, (h41 _ _ (h40 _ _ (h39 _ _ (h38 _ _ (h37 _ _ (h36 _ _ (h35 _ _ (Ow.at_new h_p_6 (h31 _ _ (Ow.ne_sym (ne_of_none h5 h9)) (Ow.at_new h_p_4 (Ow.at_new h_p_3 h27))))))))))), (h41 _ _ (h40 _ _ (h39 _ _ (h38 _ _ (h37 _ _ (h36 _ _ (h35 _ _ (Ow.at_new h_p_6 (Ow.at_fmT h31 (Ow.at_new h_p_4 (Ow.at_new h_p_3 h25)) (Ow.at_new h_p_4 (Ow.at_new h_p_3 h26))))))))))), (by walk_at "o2"), (h41 _ _ (h40 _ _ (h39 _ _ (h38 _ _ (h37 _ _ (h36 _ _ (h35 _ _ (Ow.at_new h_p_6 h34)))))))), (by walk_at "o2"), fun Hn_15 h42 => ?_⟩
        refine ⟨_, rfl, ?_⟩
        refine iteF ?_
        refine ⟨(SqL.of (h42 _ _ (h41 _ _ (h40 _ _ (h39 _ _ (h38 _ _ (h37 _ _ (h36 _ _ (h35 _ _ upd_same))))))))), ?_⟩
        refine ⟨_, rfl, ?_⟩
        refine ⟨_, rfl, ?_⟩
        refine ⟨_, rfl, ?_⟩
        refine ⟨_, _, rfl, (SqL.of (h42 _ _ (h41 _ _ (h40 _ _ (h39 _ _ (h38 _ _ (h37 _ _ (h36 _ _ (h35 _ _ (Ow.at_new h_p_6 (h31 _ _ (Ow.ne_sym (ne_of_none (h8 _ _ h5) h_D)) (Ow.at_new h_p_4 (Ow.at_new h_p_3 h24))))))))))))), fun p_7 h_p_7 => ?_⟩
        refine ⟨_, _, _, _, rfl, rfl, (Ow.at_new h_p_7 (h42 _ _ (h41 _ _ (h40 _ _ (h39 _ _ (h38 _ _ (h37 _ _ (h36 _ _ (h35 _ _ (Ow.at_new h_p_6 (h31 _ _ (Ow.ne_sym (ne_of_none (h8 _ _ h5) h_D)) (Ow.at_new h_p_4 (Ow.at_new h_p_3 h24))))))))))))), (Ow.sl_take (xs := xs_2) (k := 1) (by decide)), Ow.szc (n := 4000) (xs := xs_2) (ys := (xs_2.take 1)) (by simp only [List.length_append, List.length_take, List.length_cons, List.length_nil]; omega) (by decide), fun p_8 h_p_8 => ?_⟩
        refine ⟨_, rfl, ?_⟩
        refine ⟨_, _, _, .int (Ow.ti1_Kind kd), rfl, rfl, (SqT.of (Ow.at_new h_p_8 (Ow.at_new h_p_7 (h42 _ _ (h41 _ _ (h40 _ _ (h39 _ _ (h38 _ _ (h37 _ _ (h36 _ _ (h35 _ _ (Ow.at_new h_p_6 (Ow.at_fmT h31 (Ow.at_new h_p_4 (Ow.at_new h_p_3 h25)) (Ow.at_new h_p_4 (Ow.at_new h_p_3 h26))))))))))))))), (by cases kd <;> rfl), ?_⟩
        refine ⟨_, rfl, (by walk_at "o2"), (by walk_at "o2"), fun x y z h43 h44 h45 h46 h47 h48 h49 p_9 Hn_16 h50 h51 h52 => ?_⟩
        refine ⟨_, _, rfl, .inr (SqT.of h52), fun p_10 h_p_10 => ?_⟩
        refine ⟨_, _, _, _, rfl, rfl, (Ow.at_new h_p_10 (h50 _ _ (Ow.cat_at (xs := xs_2) (ys := (xs_2.take 1))))), upd_same, Ow.szc (n := 4000) (xs := (xs_2 ++ (xs_2.take 1))) (ys := [0, 1, x, y, z]) (by simp only [List.length_append, List.length_take, List.length_cons, List.length_nil]; omega) (by decide), fun p_11 h_p_11 => ?_⟩
        refine ⟨_, rfl, ⟨_, (SqL.of (Ow.cat_at (xs := (xs_2 ++ (xs_2.take 1))) (ys := [0, 1, x, y, z])))⟩, ?_⟩
        refine for_list (K := K) (a := p_11) (xs := (((xs_2 ++ (xs_2.take 1)) ++ [0, 1, x, y, z]).map V.int)) (fun ixv σ2 H2 => ∃ (v_8 : Option V) (v_9 : Option V), σ2 = [some (.ref script), some (.int (l_k)), some (.ref p), some (.ref p_2), some (.ref o), some (.ref D), some (.ref p_6), some (.ref p_5), v_8, v_9] ∧ Same H H2 ∧ H2 p = some (.lst [.int (a2_3), .int (m9_2), .int (c2_3)]) ∧ H2 p_2 = some (.tup (Ow.tl_Kind kd)) ∧ H2 o = some (.ins (Ow.cls_Kind T ((Ow.kn_Kind kd))) dx (Ow.fl_Kind kd)) ∧ H2 D = some (.lst (xs_2.map V.int)) ∧ H2 p_6 = some (.lst [.ref p_2, .ref p_3, .ref p_4, .ref p_5]) ∧ H2 p_5 = some (.tup (Ow.tl_Kind kd_2)) ∧ H2 p_11 = some (.lst (((xs_2 ++ (xs_2.take 1)) ++ [0, 1, x, y, z]).map V.int)) ∧ H2 p_3 = some (.tup [.str ("signed"), .int ((Ow.ti1_Kind kd)), .int (0)]) ∧ H2 p_4 = some (.tup [.str ("point"), .int ((Ow.ti1_Kind kd)), .int (1 + r)]) ∧ True) ⟨_, _, rfl, (((((((((((((((Ow.same_frame ((h23.trans (Ow.same_new h_p_3)).trans (Ow.same_new h_p_4)) h31 (Same.free h2 h_p)).trans (Ow.same_new h_p_6)).trans h35).trans h36).trans h37).trans h38).trans h39).trans h40).trans h41).trans h42).trans (Ow.same_new h_p_7)).trans (Ow.same_new h_p_8)).trans h50).trans (Ow.same_new h_p_10)).trans (Ow.same_new h_p_11)), (Ow.at_new h_p_11 (Ow.at_new h_p_10 (h50 _ _ (Ow.at_new h_p_8 (Ow.at_new h_p_7 (h42 _ _ (h41 _ _ (h40 _ _ (h39 _ _ (h38 _ _ (h37 _ _ (h36 _ _ (h35 _ _ (Ow.at_new h_p_6 h32)))))))))))))), (Ow.at_new h_p_11 (Ow.at_new h_p_10 (h50 _ _ (Ow.at_new h_p_8 (Ow.at_new h_p_7 (h42 _ _ (h41 _ _ (h40 _ _ (h39 _ _ (h38 _ _ (h37 _ _ (h36 _ _ (h35 _ _ (Ow.at_new h_p_6 (Ow.at_fmT h31 (Ow.at_new h_p_4 (Ow.at_new h_p_3 h25)) (Ow.at_new h_p_4 (Ow.at_new h_p_3 h26))))))))))))))))), (Ow.at_new h_p_11 (Ow.at_new h_p_10 (h50 _ _ (Ow.at_new h_p_8 (Ow.at_new h_p_7 (h42 _ _ (h41 _ _ (h40 _ _ (h39 _ _ (h38 _ _ (h37 _ _ (h36 _ _ (h35 _ _ (Ow.at_new h_p_6 (h31 _ _ (Ow.ne_sym (ne_of_none h5 h9)) (Ow.at_new h_p_4 (Ow.at_new h_p_3 h27))))))))))))))))), (Ow.at_new h_p_11 (Ow.at_new h_p_10 (h50 _ _ (Ow.at_new h_p_8 (Ow.at_new h_p_7 (h42 _ _ (h41 _ _ (h40 _ _ (h39 _ _ (h38 _ _ (h37 _ _ (h36 _ _ (h35 _ _ (Ow.at_new h_p_6 (h31 _ _ (Ow.ne_sym (ne_of_none (h8 _ _ h5) h_D)) (Ow.at_new h_p_4 (Ow.at_new h_p_3 h24))))))))))))))))), (Ow.at_new h_p_11 (Ow.at_new h_p_10 (h50 _ _ (Ow.at_new h_p_8 (Ow.at_new h_p_7 (h42 _ _ (h41 _ _ (h40 _ _ (h39 _ _ (h38 _ _ (h37 _ _ (h36 _ _ (h35 _ _ upd_same))))))))))))), (Ow.at_new h_p_11 (Ow.at_new h_p_10 (h50 _ _ (Ow.at_new h_p_8 (Ow.at_new h_p_7 (h42 _ _ (h41 _ _ (h40 _ _ (h39 _ _ (h38 _ _ (h37 _ _ (h36 _ _ (h35 _ _ (Ow.at_new h_p_6 h34)))))))))))))), (Ow.cat_at (xs := (xs_2 ++ (xs_2.take 1))) (ys := [0, 1, x, y, z])), (Ow.at_new h_p_11 (Ow.at_new h_p_10 (h50 _ _ (Ow.at_new h_p_8 (Ow.at_new h_p_7 (h42 _ _ (h41 _ _ (h40 _ _ (h39 _ _ (h38 _ _ (h37 _ _ (h36 _ _ (h35 _ _ (Ow.at_new h_p_6 (Ow.at_fmT h31 (Ow.at_new h_p_4 (Ow.at_new h_p_3 h25)) (Ow.at_new h_p_4 upd_same)))))))))))))))), (Ow.at_new h_p_11 (Ow.at_new h_p_10 (h50 _ _ (Ow.at_new h_p_8 (Ow.at_new h_p_7 (h42 _ _ (h41 _ _ (h40 _ _ (h39 _ _ (h38 _ _ (h37 _ _ (h36 _ _ (h35 _ _ (Ow.at_new h_p_6 (Ow.at_fmT h31 (Ow.at_new h_p_4 (Ow.at_new h_p_3 h25)) upd_same))))))))))))))), trivial⟩ (fun i σ2 H2 _ hz => ?_) ?_ ?_
        · obtain ⟨_, _, rfl, h53, h54, h55, h56, h57, h58, h59, h60, h61, h62, _⟩ := hz
          exact (SqL.of h60)
        · rintro i_3 xit _ Hn_17 h63 ⟨_, _, rfl, h64, h65, h66, h67, h68, h69, h70, h71, h72, h73, _⟩
          obtain ⟨l_word, rfl, h_l_word⟩ := Ow.ints_get (xs := ((xs_2 ++ (xs_2.take 1)) ++ [0, 1, x, y, z])) h63
          have hbw := Ow.mem12 (P := fun v => 0 ≤ v ∧ v < 2 ^ (Ow.kw kd).toNat) (List.mem_of_getElem? h_l_word) (by assumption) ⟨by omega, by omega⟩ ⟨by omega, by omega⟩ ⟨by assumption, by rw [← hti]; assumption⟩ ⟨by assumption, by rw [← hti]; assumption⟩ ⟨by assumption, by rw [← hti]; assumption⟩
          have hbw0 := hbw.1
          have hbw1 := hbw.2
          refine ⟨_, rfl, ?_⟩
          refine ⟨_, rfl, ?_⟩
          refine ⟨_, rfl, ?_⟩
          refine ⟨_, _, _, kd, _, rfl, h67, h66, (by walk_at "o2"), (by walk_at "o2"), (by walk_at "o2"), fun Hn_18 h74 => ?_⟩
          refine ⟨_, rfl, ?_⟩
          refine iteF ?_
          exact ⟨_, _, rfl, (h64.trans h74), (h74 _ _ h65), (h74 _ _ h66), (h74 _ _ h67), (h74 _ _ h68), (h74 _ _ h69), (h74 _ _ h70), (h74 _ _ h71), (h74 _ _ h72), (h74 _ _ h73), trivial⟩
        · rintro _ Hn_19 ⟨_, _, rfl, h75, h76, h77, h78, h79, h80, h81, h82, h83, h84, _⟩
          refine ⟨_, rfl, ?_⟩
          refine ⟨_, rfl, ?_⟩
          refine ⟨_, _, kd, _, rfl, h78, h77, (by walk_at "o2"), fun Hn_20 h85 => ?_⟩
          refine ⟨_, rfl, ?_⟩
          refine iteF ?_
          exact ⟨_, _, _, _, _, _, _, _, _, rfl, (h75.trans h85), trivial⟩
    · rintro _ Hn_21 ⟨_, _, _, _, _, _, _, _, _, rfl, h86, _⟩
      exact kont _ h86
end
def tx_mk {K : PySem.W.Frag} {h : Heap} {mg : Str → Option Value} (X : K.In h) (G : h.Ns mainGlobals mg) {K_Kind : Addr} {K_Plain : Addr} {K_Pointed : Addr} {K_Signed : Addr}                      {f_l_box : Addr} {od_l_box an_l_box : Option Addr} {oc_l_box kV_l_box dc_l_box pm_l_box cd_l_box ct_l_box : Value} {sl_l_box : Array (Option Value)} {f_l_take : Addr} {od_l_take an_l_take : Option Addr} {oc_l_take kV_l_take dc_l_take pm_l_take cd_l_take ct_l_take : Value} {sl_l_take : Array (Option Value)} {f_l_spec : Addr} {od_l_spec an_l_spec : Option Addr} {oc_l_spec kV_l_spec dc_l_spec pm_l_spec cd_l_spec ct_l_spec : Value} {sl_l_spec : Array (Option Value)} {f_is_whole : Addr} {od_is_whole an_is_whole : Option Addr} {oc_is_whole kV_is_whole dc_is_whole pm_is_whole cd_is_whole ct_is_whole : Value} {sl_is_whole : Array (Option Value)} {f_need_width : Addr} {od_need_width an_need_width : Option Addr} {oc_need_width kV_need_width dc_need_width pm_need_width cd_need_width ct_need_width : Value} {sl_need_width : Array (Option Value)} {f_Kind___init__ : Addr} {od_Kind___init__ an_Kind___init__ : Option Addr} {oc_Kind___init__ kV_Kind___init__ dc_Kind___init__ pm_Kind___init__ cd_Kind___init__ ct_Kind___init__ : Value} {sl_Kind___init__ : Array (Option Value)} {f_Pointed___init__ : Addr} {od_Pointed___init__ an_Pointed___init__ : Option Addr} {oc_Pointed___init__ kV_Pointed___init__ dc_Pointed___init__ pm_Pointed___init__ cd_Pointed___init__ ct_Pointed___init__ : Value} {sl_Pointed___init__ : Array (Option Value)} {f_Plain___init__ : Addr} {od_Plain___init__ an_Plain___init__ : Option Addr} {oc_Plain___init__ kV_Plain___init__ dc_Plain___init__ pm_Plain___init__ cd_Plain___init__ ct_Plain___init__ : Value} {sl_Plain___init__ : Array (Option Value)} {f_Signed___init__ : Addr} {od_Signed___init__ an_Signed___init__ : Option Addr} {oc_Signed___init__ kV_Signed___init__ dc_Signed___init__ pm_Signed___init__ cd_Signed___init__ ct_Signed___init__ : Value} {sl_Signed___init__ : Array (Option Value)} {f_l_kind : Addr} {od_l_kind an_l_kind : Option Addr} {oc_l_kind kV_l_kind dc_l_kind pm_l_kind cd_l_kind ct_l_kind : Value} {sl_l_kind : Array (Option Value)} {f_l_cell : Addr} {od_l_cell an_l_cell : Option Addr} {oc_l_cell kV_l_cell dc_l_cell pm_l_cell cd_l_cell ct_l_cell : Value} {sl_l_cell : Array (Option Value)} {f_l_bits : Addr} {od_l_bits an_l_bits : Option Addr} {oc_l_bits kV_l_bits dc_l_bits pm_l_bits cd_l_bits ct_l_bits : Value} {sl_l_bits : Array (Option Value)} {f_l_ends : Addr} {od_l_ends an_l_ends : Option Addr} {oc_l_ends kV_l_ends dc_l_ends pm_l_ends cd_l_ends ct_l_ends : Value} {sl_l_ends : Array (Option Value)} {f_Plain_word : Addr} {od_Plain_word an_Plain_word : Option Addr} {oc_Plain_word kV_Plain_word dc_Plain_word pm_Plain_word cd_Plain_word ct_Plain_word : Value} {sl_Plain_word : Array (Option Value)}  {f_Kind_word : Addr} {od_Kind_word an_Kind_word : Option Addr} {oc_Kind_word kV_Kind_word dc_Kind_word pm_Kind_word cd_Kind_word ct_Kind_word : Value} {sl_Kind_word : Array (Option Value)}  {f_Pointed_word : Addr} {od_Pointed_word an_Pointed_word : Option Addr} {oc_Pointed_word kV_Pointed_word dc_Pointed_word pm_Pointed_word cd_Pointed_word ct_Pointed_word : Value} {sl_Pointed_word : Array (Option Value)}  {f_Plain_least : Addr} {od_Plain_least an_Plain_least : Option Addr} {oc_Plain_least kV_Plain_least dc_Plain_least pm_Plain_least cd_Plain_least ct_Plain_least : Value} {sl_Plain_least : Array (Option Value)}  {f_Kind_least : Addr} {od_Kind_least an_Kind_least : Option Addr} {oc_Kind_least kV_Kind_least dc_Kind_least pm_Kind_least cd_Kind_least ct_Kind_least : Value} {sl_Kind_least : Array (Option Value)}   {f_Plain_greatest : Addr} {od_Plain_greatest an_Plain_greatest : Option Addr} {oc_Plain_greatest kV_Plain_greatest dc_Plain_greatest pm_Plain_greatest cd_Plain_greatest ct_Plain_greatest : Value} {sl_Plain_greatest : Array (Option Value)}  {f_Kind_greatest : Addr} {od_Kind_greatest an_Kind_greatest : Option Addr} {oc_Kind_greatest kV_Kind_greatest dc_Kind_greatest pm_Kind_greatest cd_Kind_greatest ct_Kind_greatest : Value} {sl_Kind_greatest : Array (Option Value)}   {f_l_whole : Addr} {od_l_whole an_l_whole : Option Addr} {oc_l_whole kV_l_whole dc_l_whole pm_l_whole cd_l_whole ct_l_whole : Value} {sl_l_whole : Array (Option Value)} {f_l_about : Addr} {od_l_about an_l_about : Option Addr} {oc_l_about kV_l_about dc_l_about pm_l_about cd_l_about ct_l_about : Value} {sl_l_about : Array (Option Value)} {f_l_words_at : Addr} {od_l_words_at an_l_words_at : Option Addr} {oc_l_words_at kV_l_words_at dc_l_words_at pm_l_words_at cd_l_words_at ct_l_words_at : Value} {sl_l_words_at : Array (Option Value)} {f_l_shared : Addr} {od_l_shared an_l_shared : Option Addr} {oc_l_shared kV_l_shared dc_l_shared pm_l_shared cd_l_shared ct_l_shared : Value} {sl_l_shared : Array (Option Value)} {f_l_value_right : Addr} {od_l_value_right an_l_value_right : Option Addr} {oc_l_value_right kV_l_value_right dc_l_value_right pm_l_value_right cd_l_value_right ct_l_value_right : Value} {sl_l_value_right : Array (Option Value)} {f_Kind_count_of : Addr} {od_Kind_count_of an_Kind_count_of : Option Addr} {oc_Kind_count_of kV_Kind_count_of dc_Kind_count_of pm_Kind_count_of cd_Kind_count_of ct_Kind_count_of : Value} {sl_Kind_count_of : Array (Option Value)}    {f_Kind_value_of : Addr} {od_Kind_value_of an_Kind_value_of : Option Addr} {oc_Kind_value_of kV_Kind_value_of dc_Kind_value_of pm_Kind_value_of cd_Kind_value_of ct_Kind_value_of : Value} {sl_Kind_value_of : Array (Option Value)}    {f_Kind_is_count : Addr} {od_Kind_is_count an_Kind_is_count : Option Addr} {oc_Kind_is_count kV_Kind_is_count dc_Kind_is_count pm_Kind_is_count cd_Kind_is_count ct_Kind_is_count : Value} {sl_Kind_is_count : Array (Option Value)}    {f_Kind_bits_of : Addr} {od_Kind_bits_of an_Kind_bits_of : Option Addr} {oc_Kind_bits_of kV_Kind_bits_of dc_Kind_bits_of pm_Kind_bits_of cd_Kind_bits_of ct_Kind_bits_of : Value} {sl_Kind_bits_of : Array (Option Value)}    {f_l_word_right : Addr} {od_l_word_right an_l_word_right : Option Addr} {oc_l_word_right kV_l_word_right dc_l_word_right pm_l_word_right cd_l_word_right ct_l_word_right : Value} {sl_l_word_right : Array (Option Value)} {f_same_kind : Addr} {od_same_kind an_same_kind : Option Addr} {oc_same_kind kV_same_kind dc_same_kind pm_same_kind cd_same_kind ct_same_kind : Value} {sl_same_kind : Array (Option Value)} {f_l_same_right : Addr} {od_l_same_right an_l_same_right : Option Addr} {oc_l_same_right kV_l_same_right dc_l_same_right pm_l_same_right cd_l_same_right ct_l_same_right : Value} {sl_l_same_right : Array (Option Value)} {f_law : Addr} {od_law an_law : Option Addr} {oc_law kV_law dc_law pm_law cd_law ct_law : Value} {sl_law : Array (Option Value)}    {mcc_Kind___init__ : Value} {tk_LEAST_WIDTH : Tok} {tk_GREATEST_WIDTH : Tok}          
    (ak_Kind : PySem.W.nsIn K mainGlobals "Kind" = some (some (.ref K_Kind)))
    (kp_Kind : PySem.W.plainGet K K_Kind Str.empty = true)
    (kh_Kind : PySem.W.hasDictIn K K_Kind = true)
    (ko_Kind : PySem.W.plainOver K K_Kind = true)
    (ks_Kind : PySem.W.findIn K (.ref K_Kind) "__setattr__" = some (some (.builtin "object.__setattr__")))
    (ak_Plain : PySem.W.nsIn K mainGlobals "Plain" = some (some (.ref K_Plain)))
    (kp_Plain : PySem.W.plainGet K K_Plain Str.empty = true)
    (kh_Plain : PySem.W.hasDictIn K K_Plain = true)
    (ko_Plain : PySem.W.plainOver K K_Plain = true)
    (ks_Plain : PySem.W.findIn K (.ref K_Plain) "__setattr__" = some (some (.builtin "object.__setattr__")))
    (ak_Pointed : PySem.W.nsIn K mainGlobals "Pointed" = some (some (.ref K_Pointed)))
    (kp_Pointed : PySem.W.plainGet K K_Pointed Str.empty = true)
    (kh_Pointed : PySem.W.hasDictIn K K_Pointed = true)
    (ko_Pointed : PySem.W.plainOver K K_Pointed = true)
    (ks_Pointed : PySem.W.findIn K (.ref K_Pointed) "__setattr__" = some (some (.builtin "object.__setattr__")))
    (ak_Signed : PySem.W.nsIn K mainGlobals "Signed" = some (some (.ref K_Signed)))
    (kp_Signed : PySem.W.plainGet K K_Signed Str.empty = true)
    (kh_Signed : PySem.W.hasDictIn K K_Signed = true)
    (ko_Signed : PySem.W.plainOver K K_Signed = true)
    (ks_Signed : PySem.W.findIn K (.ref K_Signed) "__setattr__" = some (some (.builtin "object.__setattr__")))
    (ica_Plain : PySem.W.findIn K (.ref K_Plain) "__class__" = some (some (.builtin "object.__class__")))
    (icn_Plain : PySem.W.specialIn K (.builtin "object.__class__") "__get__" = some (some (.builtin "getset_descriptor.__get__")))
    (ict_Plain : PySem.W.takesIn K (.builtin "object.__class__") = some true)
    (icm_Plain : PySem.W.mroIn K K_Plain (.type "object") = some true)
    (ica_Pointed : PySem.W.findIn K (.ref K_Pointed) "__class__" = some (some (.builtin "object.__class__")))
    (icn_Pointed : PySem.W.specialIn K (.builtin "object.__class__") "__get__" = some (some (.builtin "getset_descriptor.__get__")))
    (ict_Pointed : PySem.W.takesIn K (.builtin "object.__class__") = some true)
    (icm_Pointed : PySem.W.mroIn K K_Pointed (.type "object") = some true)
    (ica_Signed : PySem.W.findIn K (.ref K_Signed) "__class__" = some (some (.builtin "object.__class__")))
    (icn_Signed : PySem.W.specialIn K (.builtin "object.__class__") "__get__" = some (some (.builtin "getset_descriptor.__get__")))
    (ict_Signed : PySem.W.takesIn K (.builtin "object.__class__") = some true)
    (icm_Signed : PySem.W.mroIn K K_Signed (.type "object") = some true)
    (k1_kic_Plain_Kind : (Value.ref K_Plain == Value.ref K_Kind) = false)
    (k2_kic_Plain_Kind : PySem.W.isClsIn K K_Kind = true)
    (k3_kic_Plain_Kind : PySem.W.typeIn K (.ref K_Kind) = some (.type "type"))
    (k4_kic_Plain_Kind : PySem.W.subIn K (.ref K_Plain) (.ref K_Kind) = some true)
    (k1_kic_Plain_Pointed : (Value.ref K_Plain == Value.ref K_Pointed) = false)
    (k2_kic_Plain_Pointed : PySem.W.isClsIn K K_Pointed = true)
    (k3_kic_Plain_Pointed : PySem.W.typeIn K (.ref K_Pointed) = some (.type "type"))
    (k4_kic_Plain_Pointed : PySem.W.subIn K (.ref K_Plain) (.ref K_Pointed) = some false)
    (k1_kic_Plain_Signed : (Value.ref K_Plain == Value.ref K_Signed) = false)
    (k2_kic_Plain_Signed : PySem.W.isClsIn K K_Signed = true)
    (k3_kic_Plain_Signed : PySem.W.typeIn K (.ref K_Signed) = some (.type "type"))
    (k4_kic_Plain_Signed : PySem.W.subIn K (.ref K_Plain) (.ref K_Signed) = some false)
    (k1_kic_Pointed_Kind : (Value.ref K_Pointed == Value.ref K_Kind) = false)
    (k2_kic_Pointed_Kind : PySem.W.isClsIn K K_Kind = true)
    (k3_kic_Pointed_Kind : PySem.W.typeIn K (.ref K_Kind) = some (.type "type"))
    (k4_kic_Pointed_Kind : PySem.W.subIn K (.ref K_Pointed) (.ref K_Kind) = some true)
    (k1_kic_Pointed_Plain : (Value.ref K_Pointed == Value.ref K_Plain) = false)
    (k2_kic_Pointed_Plain : PySem.W.isClsIn K K_Plain = true)
    (k3_kic_Pointed_Plain : PySem.W.typeIn K (.ref K_Plain) = some (.type "type"))
    (k4_kic_Pointed_Plain : PySem.W.subIn K (.ref K_Pointed) (.ref K_Plain) = some false)
    (k1_kic_Pointed_Signed : (Value.ref K_Pointed == Value.ref K_Signed) = false)
    (k2_kic_Pointed_Signed : PySem.W.isClsIn K K_Signed = true)
    (k3_kic_Pointed_Signed : PySem.W.typeIn K (.ref K_Signed) = some (.type "type"))
    (k4_kic_Pointed_Signed : PySem.W.subIn K (.ref K_Pointed) (.ref K_Signed) = some false)
    (k1_kic_Signed_Kind : (Value.ref K_Signed == Value.ref K_Kind) = false)
    (k2_kic_Signed_Kind : PySem.W.isClsIn K K_Kind = true)
    (k3_kic_Signed_Kind : PySem.W.typeIn K (.ref K_Kind) = some (.type "type"))
    (k4_kic_Signed_Kind : PySem.W.subIn K (.ref K_Signed) (.ref K_Kind) = some true)
    (k1_kic_Signed_Plain : (Value.ref K_Signed == Value.ref K_Plain) = false)
    (k2_kic_Signed_Plain : PySem.W.isClsIn K K_Plain = true)
    (k3_kic_Signed_Plain : PySem.W.typeIn K (.ref K_Plain) = some (.type "type"))
    (k4_kic_Signed_Plain : PySem.W.subIn K (.ref K_Signed) (.ref K_Plain) = some false)
    (k1_kic_Signed_Pointed : (Value.ref K_Signed == Value.ref K_Pointed) = false)
    (k2_kic_Signed_Pointed : PySem.W.isClsIn K K_Pointed = true)
    (k3_kic_Signed_Pointed : PySem.W.typeIn K (.ref K_Pointed) = some (.type "type"))
    (k4_kic_Signed_Pointed : PySem.W.subIn K (.ref K_Signed) (.ref K_Pointed) = some false)
    (nah_Plain_point : PySem.W.findIn K (.ref K_Plain) "point" = some none)
    (nah_Plain_width : PySem.W.findIn K (.ref K_Plain) "width" = some none)
    (nah_Pointed_point : PySem.W.findIn K (.ref K_Pointed) "point" = some none)
    (nah_Pointed_width : PySem.W.findIn K (.ref K_Pointed) "width" = some none)
    (nah_Signed_point : PySem.W.findIn K (.ref K_Signed) "point" = some none)
    (nah_Signed_width : PySem.W.findIn K (.ref K_Signed) "width" = some none)
    (a_l_box : PySem.W.nsIn K mainGlobals "_law_box" = some (some (.ref f_l_box)))
    (l_l_box : K.lookup f_l_box = some ⟨oc_l_box, od_l_box, .func (PySem.W.fnOf "_law_box" "_law_box" (defArgs s_l_box) (defBody s_l_box) (defScope s_l_box) .none kV_l_box dc_l_box pm_l_box an_l_box cd_l_box ct_l_box), sl_l_box⟩)
    (c_l_box : PySem.W.codeIn K cd_l_box "_law_box" = true)
    (k_l_box : PySem.W.keepIn K (.ref f_l_box) = true)
    (a_l_take : PySem.W.nsIn K mainGlobals "_law_take" = some (some (.ref f_l_take)))
    (l_l_take : K.lookup f_l_take = some ⟨oc_l_take, od_l_take, .func (PySem.W.fnOf "_law_take" "_law_take" (defArgs s_l_take) (defBody s_l_take) (defScope s_l_take) .none kV_l_take dc_l_take pm_l_take an_l_take cd_l_take ct_l_take), sl_l_take⟩)
    (c_l_take : PySem.W.codeIn K cd_l_take "_law_take" = true)
    (k_l_take : PySem.W.keepIn K (.ref f_l_take) = true)
    (a_l_spec : PySem.W.nsIn K mainGlobals "_law_spec" = some (some (.ref f_l_spec)))
    (l_l_spec : K.lookup f_l_spec = some ⟨oc_l_spec, od_l_spec, .func (PySem.W.fnOf "_law_spec" "_law_spec" (defArgs s_l_spec) (defBody s_l_spec) (defScope s_l_spec) .none kV_l_spec dc_l_spec pm_l_spec an_l_spec cd_l_spec ct_l_spec), sl_l_spec⟩)
    (c_l_spec : PySem.W.codeIn K cd_l_spec "_law_spec" = true)
    (k_l_spec : PySem.W.keepIn K (.ref f_l_spec) = true)
    (a_is_whole : PySem.W.nsIn K mainGlobals "is_whole" = some (some (.ref f_is_whole)))
    (l_is_whole : K.lookup f_is_whole = some ⟨oc_is_whole, od_is_whole, .func (PySem.W.fnOf "is_whole" "is_whole" (defArgs s_is_whole) (defBody s_is_whole) (defScope s_is_whole) .none kV_is_whole dc_is_whole pm_is_whole an_is_whole cd_is_whole ct_is_whole), sl_is_whole⟩)
    (c_is_whole : PySem.W.codeIn K cd_is_whole "is_whole" = true)
    (k_is_whole : PySem.W.keepIn K (.ref f_is_whole) = true)
    (a_need_width : PySem.W.nsIn K mainGlobals "need_width" = some (some (.ref f_need_width)))
    (l_need_width : K.lookup f_need_width = some ⟨oc_need_width, od_need_width, .func (PySem.W.fnOf "need_width" "need_width" (defArgs s_need_width) (defBody s_need_width) (defScope s_need_width) .none kV_need_width dc_need_width pm_need_width an_need_width cd_need_width ct_need_width), sl_need_width⟩)
    (c_need_width : PySem.W.codeIn K cd_need_width "need_width" = true)
    (k_need_width : PySem.W.keepIn K (.ref f_need_width) = true)
    (l_Kind___init__ : K.lookup f_Kind___init__ = some ⟨oc_Kind___init__, od_Kind___init__, .func (PySem.W.fnOf "__init__" "Kind.__init__" (defArgs s_Kind___init__) (defBody s_Kind___init__) (defScope s_Kind___init__) .none kV_Kind___init__ dc_Kind___init__ pm_Kind___init__ an_Kind___init__ cd_Kind___init__ ct_Kind___init__), sl_Kind___init__⟩)
    (c_Kind___init__ : PySem.W.codeIn K cd_Kind___init__ "Kind.__init__" = true)
    (k_Kind___init__ : PySem.W.keepIn K (.ref f_Kind___init__) = true)
    (l_Pointed___init__ : K.lookup f_Pointed___init__ = some ⟨oc_Pointed___init__, od_Pointed___init__, .func (PySem.W.fnOf "__init__" "Pointed.__init__" (defArgs s_Pointed___init__) (defBody s_Pointed___init__) (defScope s_Pointed___init__) .none kV_Pointed___init__ dc_Pointed___init__ pm_Pointed___init__ an_Pointed___init__ cd_Pointed___init__ ct_Pointed___init__), sl_Pointed___init__⟩)
    (c_Pointed___init__ : PySem.W.codeIn K cd_Pointed___init__ "Pointed.__init__" = true)
    (k_Pointed___init__ : PySem.W.keepIn K (.ref f_Pointed___init__) = true)
    (l_Plain___init__ : K.lookup f_Plain___init__ = some ⟨oc_Plain___init__, od_Plain___init__, .func (PySem.W.fnOf "__init__" "Plain.__init__" (defArgs s_Plain___init__) (defBody s_Plain___init__) (defScope s_Plain___init__) .none kV_Plain___init__ dc_Plain___init__ pm_Plain___init__ an_Plain___init__ cd_Plain___init__ ct_Plain___init__), sl_Plain___init__⟩)
    (c_Plain___init__ : PySem.W.codeIn K cd_Plain___init__ "Plain.__init__" = true)
    (k_Plain___init__ : PySem.W.keepIn K (.ref f_Plain___init__) = true)
    (l_Signed___init__ : K.lookup f_Signed___init__ = some ⟨oc_Signed___init__, od_Signed___init__, .func (PySem.W.fnOf "__init__" "Signed.__init__" (defArgs s_Signed___init__) (defBody s_Signed___init__) (defScope s_Signed___init__) .none kV_Signed___init__ dc_Signed___init__ pm_Signed___init__ an_Signed___init__ cd_Signed___init__ ct_Signed___init__), sl_Signed___init__⟩)
    (c_Signed___init__ : PySem.W.codeIn K cd_Signed___init__ "Signed.__init__" = true)
    (k_Signed___init__ : PySem.W.keepIn K (.ref f_Signed___init__) = true)
    (a_l_kind : PySem.W.nsIn K mainGlobals "_law_kind" = some (some (.ref f_l_kind)))
    (l_l_kind : K.lookup f_l_kind = some ⟨oc_l_kind, od_l_kind, .func (PySem.W.fnOf "_law_kind" "_law_kind" (defArgs s_l_kind) (defBody s_l_kind) (defScope s_l_kind) .none kV_l_kind dc_l_kind pm_l_kind an_l_kind cd_l_kind ct_l_kind), sl_l_kind⟩)
    (c_l_kind : PySem.W.codeIn K cd_l_kind "_law_kind" = true)
    (k_l_kind : PySem.W.keepIn K (.ref f_l_kind) = true)
    (a_l_cell : PySem.W.nsIn K mainGlobals "_law_cell" = some (some (.ref f_l_cell)))
    (l_l_cell : K.lookup f_l_cell = some ⟨oc_l_cell, od_l_cell, .func (PySem.W.fnOf "_law_cell" "_law_cell" (defArgs s_l_cell) (defBody s_l_cell) (defScope s_l_cell) .none kV_l_cell dc_l_cell pm_l_cell an_l_cell cd_l_cell ct_l_cell), sl_l_cell⟩)
    (c_l_cell : PySem.W.codeIn K cd_l_cell "_law_cell" = true)
    (k_l_cell : PySem.W.keepIn K (.ref f_l_cell) = true)
    (a_l_bits : PySem.W.nsIn K mainGlobals "_law_bits" = some (some (.ref f_l_bits)))
    (l_l_bits : K.lookup f_l_bits = some ⟨oc_l_bits, od_l_bits, .func (PySem.W.fnOf "_law_bits" "_law_bits" (defArgs s_l_bits) (defBody s_l_bits) (defScope s_l_bits) .none kV_l_bits dc_l_bits pm_l_bits an_l_bits cd_l_bits ct_l_bits), sl_l_bits⟩)
    (c_l_bits : PySem.W.codeIn K cd_l_bits "_law_bits" = true)
    (k_l_bits : PySem.W.keepIn K (.ref f_l_bits) = true)
    (a_l_ends : PySem.W.nsIn K mainGlobals "_law_ends" = some (some (.ref f_l_ends)))
    (l_l_ends : K.lookup f_l_ends = some ⟨oc_l_ends, od_l_ends, .func (PySem.W.fnOf "_law_ends" "_law_ends" (defArgs s_l_ends) (defBody s_l_ends) (defScope s_l_ends) .none kV_l_ends dc_l_ends pm_l_ends an_l_ends cd_l_ends ct_l_ends), sl_l_ends⟩)
    (c_l_ends : PySem.W.codeIn K cd_l_ends "_law_ends" = true)
    (k_l_ends : PySem.W.keepIn K (.ref f_l_ends) = true)
    (l_Plain_word : K.lookup f_Plain_word = some ⟨oc_Plain_word, od_Plain_word, .func (PySem.W.fnOf "word" "Plain.word" (defArgs s_Plain_word) (defBody s_Plain_word) (defScope s_Plain_word) .none kV_Plain_word dc_Plain_word pm_Plain_word an_Plain_word cd_Plain_word ct_Plain_word), sl_Plain_word⟩)
    (c_Plain_word : PySem.W.codeIn K cd_Plain_word "Plain.word" = true)
    (k_Plain_word : PySem.W.keepIn K (.ref f_Plain_word) = true)
    (ma_Plain_word : PySem.W.findIn K (.ref K_Plain) "word" = some (some (.ref f_Plain_word)))
    (mf_Plain_word : PySem.W.isFn K (.ref f_Plain_word) = true)
    (l_Kind_word : K.lookup f_Kind_word = some ⟨oc_Kind_word, od_Kind_word, .func (PySem.W.fnOf "word" "Kind.word" (defArgs s_Kind_word) (defBody s_Kind_word) (defScope s_Kind_word) .none kV_Kind_word dc_Kind_word pm_Kind_word an_Kind_word cd_Kind_word ct_Kind_word), sl_Kind_word⟩)
    (c_Kind_word : PySem.W.codeIn K cd_Kind_word "Kind.word" = true)
    (k_Kind_word : PySem.W.keepIn K (.ref f_Kind_word) = true)
    (ma_Signed_word : PySem.W.findIn K (.ref K_Signed) "word" = some (some (.ref f_Kind_word)))
    (mf_Signed_word : PySem.W.isFn K (.ref f_Kind_word) = true)
    (l_Pointed_word : K.lookup f_Pointed_word = some ⟨oc_Pointed_word, od_Pointed_word, .func (PySem.W.fnOf "word" "Pointed.word" (defArgs s_Pointed_word) (defBody s_Pointed_word) (defScope s_Pointed_word) .none kV_Pointed_word dc_Pointed_word pm_Pointed_word an_Pointed_word cd_Pointed_word ct_Pointed_word), sl_Pointed_word⟩)
    (c_Pointed_word : PySem.W.codeIn K cd_Pointed_word "Pointed.word" = true)
    (k_Pointed_word : PySem.W.keepIn K (.ref f_Pointed_word) = true)
    (ma_Pointed_word : PySem.W.findIn K (.ref K_Pointed) "word" = some (some (.ref f_Pointed_word)))
    (mf_Pointed_word : PySem.W.isFn K (.ref f_Pointed_word) = true)
    (l_Plain_least : K.lookup f_Plain_least = some ⟨oc_Plain_least, od_Plain_least, .func (PySem.W.fnOf "least" "Plain.least" (defArgs s_Plain_least) (defBody s_Plain_least) (defScope s_Plain_least) .none kV_Plain_least dc_Plain_least pm_Plain_least an_Plain_least cd_Plain_least ct_Plain_least), sl_Plain_least⟩)
    (c_Plain_least : PySem.W.codeIn K cd_Plain_least "Plain.least" = true)
    (k_Plain_least : PySem.W.keepIn K (.ref f_Plain_least) = true)
    (ma_Plain_least : PySem.W.findIn K (.ref K_Plain) "least" = some (some (.ref f_Plain_least)))
    (mf_Plain_least : PySem.W.isFn K (.ref f_Plain_least) = true)
    (l_Kind_least : K.lookup f_Kind_least = some ⟨oc_Kind_least, od_Kind_least, .func (PySem.W.fnOf "least" "Kind.least" (defArgs s_Kind_least) (defBody s_Kind_least) (defScope s_Kind_least) .none kV_Kind_least dc_Kind_least pm_Kind_least an_Kind_least cd_Kind_least ct_Kind_least), sl_Kind_least⟩)
    (c_Kind_least : PySem.W.codeIn K cd_Kind_least "Kind.least" = true)
    (k_Kind_least : PySem.W.keepIn K (.ref f_Kind_least) = true)
    (ma_Pointed_least : PySem.W.findIn K (.ref K_Pointed) "least" = some (some (.ref f_Kind_least)))
    (mf_Pointed_least : PySem.W.isFn K (.ref f_Kind_least) = true)
    (ma_Signed_least : PySem.W.findIn K (.ref K_Signed) "least" = some (some (.ref f_Kind_least)))
    (mf_Signed_least : PySem.W.isFn K (.ref f_Kind_least) = true)
    (l_Plain_greatest : K.lookup f_Plain_greatest = some ⟨oc_Plain_greatest, od_Plain_greatest, .func (PySem.W.fnOf "greatest" "Plain.greatest" (defArgs s_Plain_greatest) (defBody s_Plain_greatest) (defScope s_Plain_greatest) .none kV_Plain_greatest dc_Plain_greatest pm_Plain_greatest an_Plain_greatest cd_Plain_greatest ct_Plain_greatest), sl_Plain_greatest⟩)
    (c_Plain_greatest : PySem.W.codeIn K cd_Plain_greatest "Plain.greatest" = true)
    (k_Plain_greatest : PySem.W.keepIn K (.ref f_Plain_greatest) = true)
    (ma_Plain_greatest : PySem.W.findIn K (.ref K_Plain) "greatest" = some (some (.ref f_Plain_greatest)))
    (mf_Plain_greatest : PySem.W.isFn K (.ref f_Plain_greatest) = true)
    (l_Kind_greatest : K.lookup f_Kind_greatest = some ⟨oc_Kind_greatest, od_Kind_greatest, .func (PySem.W.fnOf "greatest" "Kind.greatest" (defArgs s_Kind_greatest) (defBody s_Kind_greatest) (defScope s_Kind_greatest) .none kV_Kind_greatest dc_Kind_greatest pm_Kind_greatest an_Kind_greatest cd_Kind_greatest ct_Kind_greatest), sl_Kind_greatest⟩)
    (c_Kind_greatest : PySem.W.codeIn K cd_Kind_greatest "Kind.greatest" = true)
    (k_Kind_greatest : PySem.W.keepIn K (.ref f_Kind_greatest) = true)
    (ma_Pointed_greatest : PySem.W.findIn K (.ref K_Pointed) "greatest" = some (some (.ref f_Kind_greatest)))
    (mf_Pointed_greatest : PySem.W.isFn K (.ref f_Kind_greatest) = true)
    (ma_Signed_greatest : PySem.W.findIn K (.ref K_Signed) "greatest" = some (some (.ref f_Kind_greatest)))
    (mf_Signed_greatest : PySem.W.isFn K (.ref f_Kind_greatest) = true)
    (a_l_whole : PySem.W.nsIn K mainGlobals "_law_whole" = some (some (.ref f_l_whole)))
    (l_l_whole : K.lookup f_l_whole = some ⟨oc_l_whole, od_l_whole, .func (PySem.W.fnOf "_law_whole" "_law_whole" (defArgs s_l_whole) (defBody s_l_whole) (defScope s_l_whole) .none kV_l_whole dc_l_whole pm_l_whole an_l_whole cd_l_whole ct_l_whole), sl_l_whole⟩)
    (c_l_whole : PySem.W.codeIn K cd_l_whole "_law_whole" = true)
    (k_l_whole : PySem.W.keepIn K (.ref f_l_whole) = true)
    (a_l_about : PySem.W.nsIn K mainGlobals "_law_about" = some (some (.ref f_l_about)))
    (l_l_about : K.lookup f_l_about = some ⟨oc_l_about, od_l_about, .func (PySem.W.fnOf "_law_about" "_law_about" (defArgs s_l_about) (defBody s_l_about) (defScope s_l_about) .none kV_l_about dc_l_about pm_l_about an_l_about cd_l_about ct_l_about), sl_l_about⟩)
    (c_l_about : PySem.W.codeIn K cd_l_about "_law_about" = true)
    (k_l_about : PySem.W.keepIn K (.ref f_l_about) = true)
    (a_l_words_at : PySem.W.nsIn K mainGlobals "_law_words_at" = some (some (.ref f_l_words_at)))
    (l_l_words_at : K.lookup f_l_words_at = some ⟨oc_l_words_at, od_l_words_at, .func (PySem.W.fnOf "_law_words_at" "_law_words_at" (defArgs s_l_words_at) (defBody s_l_words_at) (defScope s_l_words_at) .none kV_l_words_at dc_l_words_at pm_l_words_at an_l_words_at cd_l_words_at ct_l_words_at), sl_l_words_at⟩)
    (c_l_words_at : PySem.W.codeIn K cd_l_words_at "_law_words_at" = true)
    (k_l_words_at : PySem.W.keepIn K (.ref f_l_words_at) = true)
    (a_l_shared : PySem.W.nsIn K mainGlobals "_law_shared" = some (some (.ref f_l_shared)))
    (l_l_shared : K.lookup f_l_shared = some ⟨oc_l_shared, od_l_shared, .func (PySem.W.fnOf "_law_shared" "_law_shared" (defArgs s_l_shared) (defBody s_l_shared) (defScope s_l_shared) .none kV_l_shared dc_l_shared pm_l_shared an_l_shared cd_l_shared ct_l_shared), sl_l_shared⟩)
    (c_l_shared : PySem.W.codeIn K cd_l_shared "_law_shared" = true)
    (k_l_shared : PySem.W.keepIn K (.ref f_l_shared) = true)
    (a_l_value_right : PySem.W.nsIn K mainGlobals "_law_value_right" = some (some (.ref f_l_value_right)))
    (l_l_value_right : K.lookup f_l_value_right = some ⟨oc_l_value_right, od_l_value_right, .func (PySem.W.fnOf "_law_value_right" "_law_value_right" (defArgs s_l_value_right) (defBody s_l_value_right) (defScope s_l_value_right) .none kV_l_value_right dc_l_value_right pm_l_value_right an_l_value_right cd_l_value_right ct_l_value_right), sl_l_value_right⟩)
    (c_l_value_right : PySem.W.codeIn K cd_l_value_right "_law_value_right" = true)
    (k_l_value_right : PySem.W.keepIn K (.ref f_l_value_right) = true)
    (l_Kind_count_of : K.lookup f_Kind_count_of = some ⟨oc_Kind_count_of, od_Kind_count_of, .func (PySem.W.fnOf "count_of" "Kind.count_of" (defArgs s_Kind_count_of) (defBody s_Kind_count_of) (defScope s_Kind_count_of) .none kV_Kind_count_of dc_Kind_count_of pm_Kind_count_of an_Kind_count_of cd_Kind_count_of ct_Kind_count_of), sl_Kind_count_of⟩)
    (c_Kind_count_of : PySem.W.codeIn K cd_Kind_count_of "Kind.count_of" = true)
    (k_Kind_count_of : PySem.W.keepIn K (.ref f_Kind_count_of) = true)
    (ma_Plain_count_of : PySem.W.findIn K (.ref K_Plain) "count_of" = some (some (.ref f_Kind_count_of)))
    (mf_Plain_count_of : PySem.W.isFn K (.ref f_Kind_count_of) = true)
    (ma_Pointed_count_of : PySem.W.findIn K (.ref K_Pointed) "count_of" = some (some (.ref f_Kind_count_of)))
    (mf_Pointed_count_of : PySem.W.isFn K (.ref f_Kind_count_of) = true)
    (ma_Signed_count_of : PySem.W.findIn K (.ref K_Signed) "count_of" = some (some (.ref f_Kind_count_of)))
    (mf_Signed_count_of : PySem.W.isFn K (.ref f_Kind_count_of) = true)
    (l_Kind_value_of : K.lookup f_Kind_value_of = some ⟨oc_Kind_value_of, od_Kind_value_of, .func (PySem.W.fnOf "value_of" "Kind.value_of" (defArgs s_Kind_value_of) (defBody s_Kind_value_of) (defScope s_Kind_value_of) .none kV_Kind_value_of dc_Kind_value_of pm_Kind_value_of an_Kind_value_of cd_Kind_value_of ct_Kind_value_of), sl_Kind_value_of⟩)
    (c_Kind_value_of : PySem.W.codeIn K cd_Kind_value_of "Kind.value_of" = true)
    (k_Kind_value_of : PySem.W.keepIn K (.ref f_Kind_value_of) = true)
    (ma_Plain_value_of : PySem.W.findIn K (.ref K_Plain) "value_of" = some (some (.ref f_Kind_value_of)))
    (mf_Plain_value_of : PySem.W.isFn K (.ref f_Kind_value_of) = true)
    (ma_Pointed_value_of : PySem.W.findIn K (.ref K_Pointed) "value_of" = some (some (.ref f_Kind_value_of)))
    (mf_Pointed_value_of : PySem.W.isFn K (.ref f_Kind_value_of) = true)
    (ma_Signed_value_of : PySem.W.findIn K (.ref K_Signed) "value_of" = some (some (.ref f_Kind_value_of)))
    (mf_Signed_value_of : PySem.W.isFn K (.ref f_Kind_value_of) = true)
    (l_Kind_is_count : K.lookup f_Kind_is_count = some ⟨oc_Kind_is_count, od_Kind_is_count, .func (PySem.W.fnOf "is_count" "Kind.is_count" (defArgs s_Kind_is_count) (defBody s_Kind_is_count) (defScope s_Kind_is_count) .none kV_Kind_is_count dc_Kind_is_count pm_Kind_is_count an_Kind_is_count cd_Kind_is_count ct_Kind_is_count), sl_Kind_is_count⟩)
    (c_Kind_is_count : PySem.W.codeIn K cd_Kind_is_count "Kind.is_count" = true)
    (k_Kind_is_count : PySem.W.keepIn K (.ref f_Kind_is_count) = true)
    (ma_Plain_is_count : PySem.W.findIn K (.ref K_Plain) "is_count" = some (some (.ref f_Kind_is_count)))
    (mf_Plain_is_count : PySem.W.isFn K (.ref f_Kind_is_count) = true)
    (ma_Pointed_is_count : PySem.W.findIn K (.ref K_Pointed) "is_count" = some (some (.ref f_Kind_is_count)))
    (mf_Pointed_is_count : PySem.W.isFn K (.ref f_Kind_is_count) = true)
    (ma_Signed_is_count : PySem.W.findIn K (.ref K_Signed) "is_count" = some (some (.ref f_Kind_is_count)))
    (mf_Signed_is_count : PySem.W.isFn K (.ref f_Kind_is_count) = true)
    (l_Kind_bits_of : K.lookup f_Kind_bits_of = some ⟨oc_Kind_bits_of, od_Kind_bits_of, .func (PySem.W.fnOf "bits_of" "Kind.bits_of" (defArgs s_Kind_bits_of) (defBody s_Kind_bits_of) (defScope s_Kind_bits_of) .none kV_Kind_bits_of dc_Kind_bits_of pm_Kind_bits_of an_Kind_bits_of cd_Kind_bits_of ct_Kind_bits_of), sl_Kind_bits_of⟩)
    (c_Kind_bits_of : PySem.W.codeIn K cd_Kind_bits_of "Kind.bits_of" = true)
    (k_Kind_bits_of : PySem.W.keepIn K (.ref f_Kind_bits_of) = true)
    (ma_Plain_bits_of : PySem.W.findIn K (.ref K_Plain) "bits_of" = some (some (.ref f_Kind_bits_of)))
    (mf_Plain_bits_of : PySem.W.isFn K (.ref f_Kind_bits_of) = true)
    (ma_Pointed_bits_of : PySem.W.findIn K (.ref K_Pointed) "bits_of" = some (some (.ref f_Kind_bits_of)))
    (mf_Pointed_bits_of : PySem.W.isFn K (.ref f_Kind_bits_of) = true)
    (ma_Signed_bits_of : PySem.W.findIn K (.ref K_Signed) "bits_of" = some (some (.ref f_Kind_bits_of)))
    (mf_Signed_bits_of : PySem.W.isFn K (.ref f_Kind_bits_of) = true)
    (a_l_word_right : PySem.W.nsIn K mainGlobals "_law_word_right" = some (some (.ref f_l_word_right)))
    (l_l_word_right : K.lookup f_l_word_right = some ⟨oc_l_word_right, od_l_word_right, .func (PySem.W.fnOf "_law_word_right" "_law_word_right" (defArgs s_l_word_right) (defBody s_l_word_right) (defScope s_l_word_right) .none kV_l_word_right dc_l_word_right pm_l_word_right an_l_word_right cd_l_word_right ct_l_word_right), sl_l_word_right⟩)
    (c_l_word_right : PySem.W.codeIn K cd_l_word_right "_law_word_right" = true)
    (k_l_word_right : PySem.W.keepIn K (.ref f_l_word_right) = true)
    (a_same_kind : PySem.W.nsIn K mainGlobals "same_kind" = some (some (.ref f_same_kind)))
    (l_same_kind : K.lookup f_same_kind = some ⟨oc_same_kind, od_same_kind, .func (PySem.W.fnOf "same_kind" "same_kind" (defArgs s_same_kind) (defBody s_same_kind) (defScope s_same_kind) .none kV_same_kind dc_same_kind pm_same_kind an_same_kind cd_same_kind ct_same_kind), sl_same_kind⟩)
    (c_same_kind : PySem.W.codeIn K cd_same_kind "same_kind" = true)
    (k_same_kind : PySem.W.keepIn K (.ref f_same_kind) = true)
    (a_l_same_right : PySem.W.nsIn K mainGlobals "_law_same_right" = some (some (.ref f_l_same_right)))
    (l_l_same_right : K.lookup f_l_same_right = some ⟨oc_l_same_right, od_l_same_right, .func (PySem.W.fnOf "_law_same_right" "_law_same_right" (defArgs s_l_same_right) (defBody s_l_same_right) (defScope s_l_same_right) .none kV_l_same_right dc_l_same_right pm_l_same_right an_l_same_right cd_l_same_right ct_l_same_right), sl_l_same_right⟩)
    (c_l_same_right : PySem.W.codeIn K cd_l_same_right "_law_same_right" = true)
    (k_l_same_right : PySem.W.keepIn K (.ref f_l_same_right) = true)
    (a_law : PySem.W.nsIn K mainGlobals "law" = some (some (.ref f_law)))
    (l_law : K.lookup f_law = some ⟨oc_law, od_law, .func (PySem.W.fnOf "law" "law" (defArgs s_law) (defBody s_law) (defScope s_law) .none kV_law dc_law pm_law an_law cd_law ct_law), sl_law⟩)
    (c_law : PySem.W.codeIn K cd_law "law" = true)
    (k_law : PySem.W.keepIn K (.ref f_law) = true)
    (km_Plain : PySem.W.makesIn K K_Plain = true)
    (kin_Plain : PySem.W.findIn K (.ref K_Plain) "__init__" = some (some (.ref f_Plain___init__)))
    (kif_Plain : PySem.W.isFn K (.ref f_Plain___init__) = true)
    (kk_Plain : PySem.W.keepIn K (.ref K_Plain) = true)
    (km_Pointed : PySem.W.makesIn K K_Pointed = true)
    (kin_Pointed : PySem.W.findIn K (.ref K_Pointed) "__init__" = some (some (.ref f_Pointed___init__)))
    (kif_Pointed : PySem.W.isFn K (.ref f_Pointed___init__) = true)
    (kk_Pointed : PySem.W.keepIn K (.ref K_Pointed) = true)
    (km_Signed : PySem.W.makesIn K K_Signed = true)
    (kin_Signed : PySem.W.findIn K (.ref K_Signed) "__init__" = some (some (.ref f_Signed___init__)))
    (kif_Signed : PySem.W.isFn K (.ref f_Signed___init__) = true)
    (kk_Signed : PySem.W.keepIn K (.ref K_Signed) = true)
    (ct_Kind___init__ : PySem.W.typeIn K (.ref K_Kind) = some mcc_Kind___init__)
    (cr_Kind___init__ : PySem.W.readsIn K K_Kind mcc_Kind___init__ = true)
    (cg_Kind___init__ : PySem.W.specialIn K (.ref K_Kind) "__getattribute__" = some (some (.builtin "type.__getattribute__")))
    (cv_Kind___init__ : PySem.W.findCls K (.ref K_Kind) mcc_Kind___init__ "__init__" = some (.val (.ref f_Kind___init__)))
    (ag_LEAST_WIDTH : PySem.W.nsIn K mainGlobals "LEAST_WIDTH" = some (some (.int 4 tk_LEAST_WIDTH)))
    (ag_GREATEST_WIDTH : PySem.W.nsIn K mainGlobals "GREATEST_WIDTH" = some (some (.int 32 tk_GREATEST_WIDTH)))
    (zz_max : PySem.W.nsIn K mainGlobals "max" = some none)
    (zz_isinstance : PySem.W.nsIn K mainGlobals "isinstance" = some none)
    (zz_bool : PySem.W.nsIn K mainGlobals "bool" = some none)
    (zz_int : PySem.W.nsIn K mainGlobals "int" = some none)
    (zz_len : PySem.W.nsIn K mainGlobals "len" = some none)
    (zz_abs : PySem.W.nsIn K mainGlobals "abs" = some none)
    (zz_tuple : PySem.W.nsIn K mainGlobals "tuple" = some none)
    (zz_range : PySem.W.nsIn K mainGlobals "range" = some none)
    (zz_min : PySem.W.nsIn K mainGlobals "min" = some none)
    (zz_list : PySem.W.nsIn K mainGlobals "list" = some none) : Tx K mg where
  k_Kind := ⟨K_Kind, PySem.W.mg_of X G ak_Kind, ⟨kp_Kind, kh_Kind, ko_Kind, ks_Kind⟩⟩
  k_Plain := ⟨K_Plain, PySem.W.mg_of X G ak_Plain, ⟨kp_Plain, kh_Plain, ko_Plain, ks_Plain⟩⟩
  k_Pointed := ⟨K_Pointed, PySem.W.mg_of X G ak_Pointed, ⟨kp_Pointed, kh_Pointed, ko_Pointed, ks_Pointed⟩⟩
  k_Signed := ⟨K_Signed, PySem.W.mg_of X G ak_Signed, ⟨kp_Signed, kh_Signed, ko_Signed, ks_Signed⟩⟩
  ic_Plain := ⟨ica_Plain, icn_Plain, ict_Plain, icm_Plain⟩
  ic_Pointed := ⟨ica_Pointed, icn_Pointed, ict_Pointed, icm_Pointed⟩
  ic_Signed := ⟨ica_Signed, icn_Signed, ict_Signed, icm_Signed⟩
  kic_Plain_Kind := Ow.kit_sub k1_kic_Plain_Kind k2_kic_Plain_Kind k3_kic_Plain_Kind k4_kic_Plain_Kind
  kic_Plain_Plain := Ow.kit_self
  kic_Plain_Pointed := Ow.kit_sub k1_kic_Plain_Pointed k2_kic_Plain_Pointed k3_kic_Plain_Pointed k4_kic_Plain_Pointed
  kic_Plain_Signed := Ow.kit_sub k1_kic_Plain_Signed k2_kic_Plain_Signed k3_kic_Plain_Signed k4_kic_Plain_Signed
  kic_Pointed_Kind := Ow.kit_sub k1_kic_Pointed_Kind k2_kic_Pointed_Kind k3_kic_Pointed_Kind k4_kic_Pointed_Kind
  kic_Pointed_Plain := Ow.kit_sub k1_kic_Pointed_Plain k2_kic_Pointed_Plain k3_kic_Pointed_Plain k4_kic_Pointed_Plain
  kic_Pointed_Pointed := Ow.kit_self
  kic_Pointed_Signed := Ow.kit_sub k1_kic_Pointed_Signed k2_kic_Pointed_Signed k3_kic_Pointed_Signed k4_kic_Pointed_Signed
  kic_Signed_Kind := Ow.kit_sub k1_kic_Signed_Kind k2_kic_Signed_Kind k3_kic_Signed_Kind k4_kic_Signed_Kind
  kic_Signed_Plain := Ow.kit_sub k1_kic_Signed_Plain k2_kic_Signed_Plain k3_kic_Signed_Plain k4_kic_Signed_Plain
  kic_Signed_Pointed := Ow.kit_sub k1_kic_Signed_Pointed k2_kic_Signed_Pointed k3_kic_Signed_Pointed k4_kic_Signed_Pointed
  kic_Signed_Signed := Ow.kit_self
  na_Plain_point := nah_Plain_point
  na_Plain_width := nah_Plain_width
  na_Pointed_point := nah_Pointed_point
  na_Pointed_width := nah_Pointed_width
  na_Signed_point := nah_Signed_point
  na_Signed_width := nah_Signed_width
  d_l_box := ⟨f_l_box, _, fun_mk (st := s_l_box) l_l_box c_l_box k_l_box, (fun_mk (st := s_l_box) l_l_box c_l_box k_l_box).binds fun _ _ _ _ _ _ us hl => match us, hl with | [_], _ => rfl, PySem.W.mg_of X G a_l_box⟩
  d_l_take := ⟨f_l_take, _, fun_mk (st := s_l_take) l_l_take c_l_take k_l_take, (fun_mk (st := s_l_take) l_l_take c_l_take k_l_take).binds fun _ _ _ _ _ _ us hl => match us, hl with | [_, _], _ => rfl, PySem.W.mg_of X G a_l_take⟩
  d_l_spec := ⟨f_l_spec, _, fun_mk (st := s_l_spec) l_l_spec c_l_spec k_l_spec, (fun_mk (st := s_l_spec) l_l_spec c_l_spec k_l_spec).binds fun _ _ _ _ _ _ us hl => match us, hl with | [_], _ => rfl, PySem.W.mg_of X G a_l_spec⟩
  d_is_whole := ⟨f_is_whole, _, fun_mk (st := s_is_whole) l_is_whole c_is_whole k_is_whole, (fun_mk (st := s_is_whole) l_is_whole c_is_whole k_is_whole).binds fun _ _ _ _ _ _ us hl => match us, hl with | [_], _ => rfl, PySem.W.mg_of X G a_is_whole⟩
  d_need_width := ⟨f_need_width, _, fun_mk (st := s_need_width) l_need_width c_need_width k_need_width, (fun_mk (st := s_need_width) l_need_width c_need_width k_need_width).binds fun _ _ _ _ _ _ us hl => match us, hl with | [_], _ => rfl, PySem.W.mg_of X G a_need_width⟩
  d_Kind___init__ := ⟨f_Kind___init__, _, fun_mk (st := s_Kind___init__) l_Kind___init__ c_Kind___init__ k_Kind___init__, (fun_mk (st := s_Kind___init__) l_Kind___init__ c_Kind___init__ k_Kind___init__).binds fun _ _ _ _ _ _ us hl => match us, hl with | [_, _, _], _ => rfl⟩
  d_Pointed___init__ := ⟨f_Pointed___init__, _, fun_mk (st := s_Pointed___init__) l_Pointed___init__ c_Pointed___init__ k_Pointed___init__, (fun_mk (st := s_Pointed___init__) l_Pointed___init__ c_Pointed___init__ k_Pointed___init__).binds fun _ _ _ _ _ _ us hl => match us, hl with | [_, _, _], _ => rfl⟩
  d_Plain___init__ := ⟨f_Plain___init__, _, fun_mk (st := s_Plain___init__) l_Plain___init__ c_Plain___init__ k_Plain___init__, (fun_mk (st := s_Plain___init__) l_Plain___init__ c_Plain___init__ k_Plain___init__).binds fun _ _ _ _ _ _ us hl => match us, hl with | [_, _], _ => rfl⟩
  d_Signed___init__ := ⟨f_Signed___init__, _, fun_mk (st := s_Signed___init__) l_Signed___init__ c_Signed___init__ k_Signed___init__, (fun_mk (st := s_Signed___init__) l_Signed___init__ c_Signed___init__ k_Signed___init__).binds fun _ _ _ _ _ _ us hl => match us, hl with | [_, _], _ => rfl⟩
  d_l_kind := ⟨f_l_kind, _, fun_mk (st := s_l_kind) l_l_kind c_l_kind k_l_kind, (fun_mk (st := s_l_kind) l_l_kind c_l_kind k_l_kind).binds fun _ _ _ _ _ _ us hl => match us, hl with | [_], _ => rfl, PySem.W.mg_of X G a_l_kind⟩
  d_l_cell := ⟨f_l_cell, _, fun_mk (st := s_l_cell) l_l_cell c_l_cell k_l_cell, (fun_mk (st := s_l_cell) l_l_cell c_l_cell k_l_cell).binds fun _ _ _ _ _ _ us hl => match us, hl with | [_, _], _ => rfl, PySem.W.mg_of X G a_l_cell⟩
  d_l_bits := ⟨f_l_bits, _, fun_mk (st := s_l_bits) l_l_bits c_l_bits k_l_bits, (fun_mk (st := s_l_bits) l_l_bits c_l_bits k_l_bits).binds fun _ _ _ _ _ _ us hl => match us, hl with | [_, _], _ => rfl, PySem.W.mg_of X G a_l_bits⟩
  d_l_ends := ⟨f_l_ends, _, fun_mk (st := s_l_ends) l_l_ends c_l_ends k_l_ends, (fun_mk (st := s_l_ends) l_l_ends c_l_ends k_l_ends).binds fun _ _ _ _ _ _ us hl => match us, hl with | [_], _ => rfl, PySem.W.mg_of X G a_l_ends⟩
  d_Plain_word := ⟨f_Plain_word, _, fun_mk (st := s_Plain_word) l_Plain_word c_Plain_word k_Plain_word, (fun_mk (st := s_Plain_word) l_Plain_word c_Plain_word k_Plain_word).binds fun _ _ _ _ _ _ us hl => match us, hl with | [_], _ => rfl⟩
  mt_Plain_word := ⟨ma_Plain_word, mf_Plain_word, k_Plain_word⟩
  d_Kind_word := ⟨f_Kind_word, _, fun_mk (st := s_Kind_word) l_Kind_word c_Kind_word k_Kind_word, (fun_mk (st := s_Kind_word) l_Kind_word c_Kind_word k_Kind_word).binds fun _ _ _ _ _ _ us hl => match us, hl with | [_], _ => rfl⟩
  mt_Signed_word := ⟨ma_Signed_word, mf_Signed_word, k_Kind_word⟩
  d_Pointed_word := ⟨f_Pointed_word, _, fun_mk (st := s_Pointed_word) l_Pointed_word c_Pointed_word k_Pointed_word, (fun_mk (st := s_Pointed_word) l_Pointed_word c_Pointed_word k_Pointed_word).binds fun _ _ _ _ _ _ us hl => match us, hl with | [_], _ => rfl⟩
  mt_Pointed_word := ⟨ma_Pointed_word, mf_Pointed_word, k_Pointed_word⟩
  d_Plain_least := ⟨f_Plain_least, _, fun_mk (st := s_Plain_least) l_Plain_least c_Plain_least k_Plain_least, (fun_mk (st := s_Plain_least) l_Plain_least c_Plain_least k_Plain_least).binds fun _ _ _ _ _ _ us hl => match us, hl with | [_], _ => rfl⟩
  mt_Plain_least := ⟨ma_Plain_least, mf_Plain_least, k_Plain_least⟩
  d_Kind_least := ⟨f_Kind_least, _, fun_mk (st := s_Kind_least) l_Kind_least c_Kind_least k_Kind_least, (fun_mk (st := s_Kind_least) l_Kind_least c_Kind_least k_Kind_least).binds fun _ _ _ _ _ _ us hl => match us, hl with | [_], _ => rfl⟩
  mt_Pointed_least := ⟨ma_Pointed_least, mf_Pointed_least, k_Kind_least⟩
  mt_Signed_least := ⟨ma_Signed_least, mf_Signed_least, k_Kind_least⟩
  d_Plain_greatest := ⟨f_Plain_greatest, _, fun_mk (st := s_Plain_greatest) l_Plain_greatest c_Plain_greatest k_Plain_greatest, (fun_mk (st := s_Plain_greatest) l_Plain_greatest c_Plain_greatest k_Plain_greatest).binds fun _ _ _ _ _ _ us hl => match us, hl with | [_], _ => rfl⟩
  mt_Plain_greatest := ⟨ma_Plain_greatest, mf_Plain_greatest, k_Plain_greatest⟩
  d_Kind_greatest := ⟨f_Kind_greatest, _, fun_mk (st := s_Kind_greatest) l_Kind_greatest c_Kind_greatest k_Kind_greatest, (fun_mk (st := s_Kind_greatest) l_Kind_greatest c_Kind_greatest k_Kind_greatest).binds fun _ _ _ _ _ _ us hl => match us, hl with | [_], _ => rfl⟩
  mt_Pointed_greatest := ⟨ma_Pointed_greatest, mf_Pointed_greatest, k_Kind_greatest⟩
  mt_Signed_greatest := ⟨ma_Signed_greatest, mf_Signed_greatest, k_Kind_greatest⟩
  d_l_whole := ⟨f_l_whole, _, fun_mk (st := s_l_whole) l_l_whole c_l_whole k_l_whole, (fun_mk (st := s_l_whole) l_l_whole c_l_whole k_l_whole).binds fun _ _ _ _ _ _ us hl => match us, hl with | [_], _ => rfl, PySem.W.mg_of X G a_l_whole⟩
  d_l_about := ⟨f_l_about, _, fun_mk (st := s_l_about) l_l_about c_l_about k_l_about, (fun_mk (st := s_l_about) l_l_about c_l_about k_l_about).binds fun _ _ _ _ _ _ us hl => match us, hl with | [_, _], _ => rfl, PySem.W.mg_of X G a_l_about⟩
  d_l_words_at := ⟨f_l_words_at, _, fun_mk (st := s_l_words_at) l_l_words_at c_l_words_at k_l_words_at, (fun_mk (st := s_l_words_at) l_l_words_at c_l_words_at k_l_words_at).binds fun _ _ _ _ _ _ us hl => match us, hl with | [_], _ => rfl, PySem.W.mg_of X G a_l_words_at⟩
  d_l_shared := ⟨f_l_shared, _, fun_mk (st := s_l_shared) l_l_shared c_l_shared k_l_shared, (fun_mk (st := s_l_shared) l_l_shared c_l_shared k_l_shared).binds fun _ _ _ _ _ _ us hl => match us, hl with | [_, _], _ => rfl, PySem.W.mg_of X G a_l_shared⟩
  d_l_value_right := ⟨f_l_value_right, _, fun_mk (st := s_l_value_right) l_l_value_right c_l_value_right k_l_value_right, (fun_mk (st := s_l_value_right) l_l_value_right c_l_value_right k_l_value_right).binds fun _ _ _ _ _ _ us hl => match us, hl with | [_, _, _], _ => rfl, PySem.W.mg_of X G a_l_value_right⟩
  d_Kind_count_of := ⟨f_Kind_count_of, _, fun_mk (st := s_Kind_count_of) l_Kind_count_of c_Kind_count_of k_Kind_count_of, (fun_mk (st := s_Kind_count_of) l_Kind_count_of c_Kind_count_of k_Kind_count_of).binds fun _ _ _ _ _ _ us hl => match us, hl with | [_, _], _ => rfl⟩
  mt_Plain_count_of := ⟨ma_Plain_count_of, mf_Plain_count_of, k_Kind_count_of⟩
  mt_Pointed_count_of := ⟨ma_Pointed_count_of, mf_Pointed_count_of, k_Kind_count_of⟩
  mt_Signed_count_of := ⟨ma_Signed_count_of, mf_Signed_count_of, k_Kind_count_of⟩
  d_Kind_value_of := ⟨f_Kind_value_of, _, fun_mk (st := s_Kind_value_of) l_Kind_value_of c_Kind_value_of k_Kind_value_of, (fun_mk (st := s_Kind_value_of) l_Kind_value_of c_Kind_value_of k_Kind_value_of).binds fun _ _ _ _ _ _ us hl => match us, hl with | [_, _], _ => rfl⟩
  mt_Plain_value_of := ⟨ma_Plain_value_of, mf_Plain_value_of, k_Kind_value_of⟩
  mt_Pointed_value_of := ⟨ma_Pointed_value_of, mf_Pointed_value_of, k_Kind_value_of⟩
  mt_Signed_value_of := ⟨ma_Signed_value_of, mf_Signed_value_of, k_Kind_value_of⟩
  d_Kind_is_count := ⟨f_Kind_is_count, _, fun_mk (st := s_Kind_is_count) l_Kind_is_count c_Kind_is_count k_Kind_is_count, (fun_mk (st := s_Kind_is_count) l_Kind_is_count c_Kind_is_count k_Kind_is_count).binds fun _ _ _ _ _ _ us hl => match us, hl with | [_, _], _ => rfl⟩
  mt_Plain_is_count := ⟨ma_Plain_is_count, mf_Plain_is_count, k_Kind_is_count⟩
  mt_Pointed_is_count := ⟨ma_Pointed_is_count, mf_Pointed_is_count, k_Kind_is_count⟩
  mt_Signed_is_count := ⟨ma_Signed_is_count, mf_Signed_is_count, k_Kind_is_count⟩
  d_Kind_bits_of := ⟨f_Kind_bits_of, _, fun_mk (st := s_Kind_bits_of) l_Kind_bits_of c_Kind_bits_of k_Kind_bits_of, (fun_mk (st := s_Kind_bits_of) l_Kind_bits_of c_Kind_bits_of k_Kind_bits_of).binds fun _ _ _ _ _ _ us hl => match us, hl with | [_, _], _ => rfl⟩
  mt_Plain_bits_of := ⟨ma_Plain_bits_of, mf_Plain_bits_of, k_Kind_bits_of⟩
  mt_Pointed_bits_of := ⟨ma_Pointed_bits_of, mf_Pointed_bits_of, k_Kind_bits_of⟩
  mt_Signed_bits_of := ⟨ma_Signed_bits_of, mf_Signed_bits_of, k_Kind_bits_of⟩
  d_l_word_right := ⟨f_l_word_right, _, fun_mk (st := s_l_word_right) l_l_word_right c_l_word_right k_l_word_right, (fun_mk (st := s_l_word_right) l_l_word_right c_l_word_right k_l_word_right).binds fun _ _ _ _ _ _ us hl => match us, hl with | [_, _, _], _ => rfl, PySem.W.mg_of X G a_l_word_right⟩
  d_same_kind := ⟨f_same_kind, _, fun_mk (st := s_same_kind) l_same_kind c_same_kind k_same_kind, (fun_mk (st := s_same_kind) l_same_kind c_same_kind k_same_kind).binds fun _ _ _ _ _ _ us hl => match us, hl with | [_, _], _ => rfl, PySem.W.mg_of X G a_same_kind⟩
  d_l_same_right := ⟨f_l_same_right, _, fun_mk (st := s_l_same_right) l_l_same_right c_l_same_right k_l_same_right, (fun_mk (st := s_l_same_right) l_l_same_right c_l_same_right k_l_same_right).binds fun _ _ _ _ _ _ us hl => match us, hl with | [_, _, _], _ => rfl, PySem.W.mg_of X G a_l_same_right⟩
  d_law := ⟨f_law, _, fun_mk (st := s_law) l_law c_law k_law, (fun_mk (st := s_law) l_law c_law k_law).binds fun _ _ _ _ _ _ us hl => match us, hl with | [_], _ => rfl, PySem.W.mg_of X G a_law⟩
  mk_Plain := ⟨km_Plain, kin_Plain, kif_Plain, kk_Plain⟩
  mk_Pointed := ⟨km_Pointed, kin_Pointed, kif_Pointed, kk_Pointed⟩
  mk_Signed := ⟨km_Signed, kin_Signed, kif_Signed, kk_Signed⟩
  cc_Kind___init__ := ⟨mcc_Kind___init__, ⟨cr_Kind___init__, cg_Kind___init__⟩, cv_Kind___init__⟩
  g_LEAST_WIDTH := ⟨_, PySem.W.mg_of X G ag_LEAST_WIDTH⟩
  g_GREATEST_WIDTH := ⟨_, PySem.W.mg_of X G ag_GREATEST_WIDTH⟩
  z_max := PySem.W.mg_none_of X G zz_max
  z_isinstance := PySem.W.mg_none_of X G zz_isinstance
  z_bool := PySem.W.mg_none_of X G zz_bool
  z_int := PySem.W.mg_none_of X G zz_int
  z_len := PySem.W.mg_none_of X G zz_len
  z_abs := PySem.W.mg_none_of X G zz_abs
  z_tuple := PySem.W.mg_none_of X G zz_tuple
  z_range := PySem.W.mg_none_of X G zz_range
  z_min := PySem.W.mg_none_of X G zz_min
  z_list := PySem.W.mg_none_of X G zz_list
theorem all_mk {l : PySem.W.OpenLaw} {w : World} {K : PySem.W.Frag} {h : Heap} {mg : Str → Option Value} {fa : Addr} (hfa : mg "law" = some (.ref fa)) (T : Tx K mg) :
    ∃ fd : FuncData, (∀ (s : Shared) (v : Value), BindsTo s fd ⟨[v], []⟩ [("_law_script", v)]) ∧ ∀ base : Heap, K.In base → base.Ns mainGlobals mg → FnOk l.prog w K mg base CX0 9 fa fd ["_law_script"] (sp_law K) := by
  have e := hfa.symm.trans T.d_law.m
  cases e
  refine ⟨T.d_law.fd, fun s v => ?_, fun base _ _ => ok_law T⟩
  obtain ⟨oc, od, kV, doc, pm, an, cdv, ct, osl, e, _, _⟩ := T.d_law.F.ex
  rw [e]
  exact .of_eq rfl
theorem walk {l : PySem.W.OpenLaw} {q : Program} {loose : List Str} {XP : (Str → Option Value) → Heap → Prop} {YP : World → Heap → Prop} {d : DefRec} {K : Params → PySem.W.Frag} (hn : l.most = some 63) (hdf : d.params.defaults = [])
    (hY : ∀ (w : World) (h : Heap), YP w h → (K w.params).In h)
    (F : ∀ (w : World) (mg : Str → Option Value) (fa : Addr) (h : Heap), (K w.params).In h → h.Ns mainGlobals mg → mg d.name = some (.ref fa) →
      ∃ fd : FuncData, (∀ (s : Shared) (u : Value), BindsTo s fd ⟨[u], []⟩ [("_law_script", u)]) ∧ ∀ base : Heap, (K w.params).In base → base.Ns mainGlobals mg → FnOk l.prog w (K w.params) mg base CX0 9 fa fd ["_law_script"] (sp_law (K w.params))) :
    PySem.W.WalkO q loose XP YP l.row.toRowW d [] (fun f vs => PySem.call f vs) :=
  L2.walk_of (n := 63) (k := 9) (x := "_law_script") (CX := fun _ => CX0) (sp := fun w => sp_law (K w.params)) hn (by decide) hdf ⟨rfl, by decide, by decide⟩ hY F (fun _ _ a ns hl _ hS => ⟨a, ns, rfl, hS, hl, fun _ _ => rfl⟩) fun _ _ _ _ _ z => z
end Ow
open PySem PySem.W PyProof.Rows
set_option maxRecDepth 100000 in
set_option maxHeartbeats 0 in
set_option pp.deepTerms.threshold 3 in
set_option pp.maxSteps 150 in
theorem PySem.Challenge.cw_overwise_k01_kinds_and_counts_holds : PySem.Challenge.rw_overwise_k01_kinds_and_counts.Holds := by
  w_on; o_law; k_head; (case hw => w_witness2)
  k_fill
  refine _root_.Ow.walk (l := PySem.Challenge.rw_overwise_k01_kinds_and_counts) rfl rfl (fun w h Y => PySem.W.kIn_of Y) ?F
  case F =>
    intro w mg fa h KX G hmg
    refine' _root_.Ow.all_mk (h := h) hmg (_root_.Ow.tx_mk KX G ?ak_Kind ?kp_Kind ?kh_Kind ?ko_Kind ?ks_Kind ?ak_Plain ?kp_Plain ?kh_Plain ?ko_Plain ?ks_Plain ?ak_Pointed ?kp_Pointed ?kh_Pointed ?ko_Pointed ?ks_Pointed ?ak_Signed ?kp_Signed ?kh_Signed ?ko_Signed ?ks_Signed ?ica_Plain ?icn_Plain ?ict_Plain ?icm_Plain ?ica_Pointed ?icn_Pointed ?ict_Pointed ?icm_Pointed ?ica_Signed ?icn_Signed ?ict_Signed ?icm_Signed ?k1_kic_Plain_Kind ?k2_kic_Plain_Kind ?k3_kic_Plain_Kind ?k4_kic_Plain_Kind ?k1_kic_Plain_Pointed ?k2_kic_Plain_Pointed ?k3_kic_Plain_Pointed ?k4_kic_Plain_Pointed ?k1_kic_Plain_Signed ?k2_kic_Plain_Signed ?k3_kic_Plain_Signed ?k4_kic_Plain_Signed ?k1_kic_Pointed_Kind ?k2_kic_Pointed_Kind ?k3_kic_Pointed_Kind ?k4_kic_Pointed_Kind ?k1_kic_Pointed_Plain ?k2_kic_Pointed_Plain ?k3_kic_Pointed_Plain ?k4_kic_Pointed_Plain ?k1_kic_Pointed_Signed ?k2_kic_Pointed_Signed ?k3_kic_Pointed_Signed ?k4_kic_Pointed_Signed ?k1_kic_Signed_Kind ?k2_kic_Signed_Kind ?k3_kic_Signed_Kind ?k4_kic_Signed_Kind ?k1_kic_Signed_Plain ?k2_kic_Signed_Plain ?k3_kic_Signed_Plain ?k4_kic_Signed_Plain ?k1_kic_Signed_Pointed ?k2_kic_Signed_Pointed ?k3_kic_Signed_Pointed ?k4_kic_Signed_Pointed ?nah_Plain_point ?nah_Plain_width ?nah_Pointed_point ?nah_Pointed_width ?nah_Signed_point ?nah_Signed_width ?a_l_box ?l_l_box ?c_l_box ?k_l_box ?a_l_take ?l_l_take ?c_l_take ?k_l_take ?a_l_spec ?l_l_spec ?c_l_spec ?k_l_spec ?a_is_whole ?l_is_whole ?c_is_whole ?k_is_whole ?a_need_width ?l_need_width ?c_need_width ?k_need_width ?l_Kind___init__ ?c_Kind___init__ ?k_Kind___init__ ?l_Pointed___init__ ?c_Pointed___init__ ?k_Pointed___init__ ?l_Plain___init__ ?c_Plain___init__ ?k_Plain___init__ ?l_Signed___init__ ?c_Signed___init__ ?k_Signed___init__ ?a_l_kind ?l_l_kind ?c_l_kind ?k_l_kind ?a_l_cell ?l_l_cell ?c_l_cell ?k_l_cell ?a_l_bits ?l_l_bits ?c_l_bits ?k_l_bits ?a_l_ends ?l_l_ends ?c_l_ends ?k_l_ends ?l_Plain_word ?c_Plain_word ?k_Plain_word ?ma_Plain_word ?mf_Plain_word ?l_Kind_word ?c_Kind_word ?k_Kind_word ?ma_Signed_word ?mf_Signed_word ?l_Pointed_word ?c_Pointed_word ?k_Pointed_word ?ma_Pointed_word ?mf_Pointed_word ?l_Plain_least ?c_Plain_least ?k_Plain_least ?ma_Plain_least ?mf_Plain_least ?l_Kind_least ?c_Kind_least ?k_Kind_least ?ma_Pointed_least ?mf_Pointed_least ?ma_Signed_least ?mf_Signed_least ?l_Plain_greatest ?c_Plain_greatest ?k_Plain_greatest ?ma_Plain_greatest ?mf_Plain_greatest ?l_Kind_greatest ?c_Kind_greatest ?k_Kind_greatest ?ma_Pointed_greatest ?mf_Pointed_greatest ?ma_Signed_greatest ?mf_Signed_greatest ?a_l_whole ?l_l_whole ?c_l_whole ?k_l_whole ?a_l_about ?l_l_about ?c_l_about ?k_l_about ?a_l_words_at ?l_l_words_at ?c_l_words_at ?k_l_words_at ?a_l_shared ?l_l_shared ?c_l_shared ?k_l_shared ?a_l_value_right ?l_l_value_right ?c_l_value_right ?k_l_value_right ?l_Kind_count_of ?c_Kind_count_of ?k_Kind_count_of ?ma_Plain_count_of ?mf_Plain_count_of ?ma_Pointed_count_of ?mf_Pointed_count_of ?ma_Signed_count_of ?mf_Signed_count_of ?l_Kind_value_of ?c_Kind_value_of ?k_Kind_value_of ?ma_Plain_value_of ?mf_Plain_value_of ?ma_Pointed_value_of ?mf_Pointed_value_of ?ma_Signed_value_of ?mf_Signed_value_of ?l_Kind_is_count ?c_Kind_is_count ?k_Kind_is_count ?ma_Plain_is_count ?mf_Plain_is_count ?ma_Pointed_is_count ?mf_Pointed_is_count ?ma_Signed_is_count ?mf_Signed_is_count ?l_Kind_bits_of ?c_Kind_bits_of ?k_Kind_bits_of ?ma_Plain_bits_of ?mf_Plain_bits_of ?ma_Pointed_bits_of ?mf_Pointed_bits_of ?ma_Signed_bits_of ?mf_Signed_bits_of ?a_l_word_right ?l_l_word_right ?c_l_word_right ?k_l_word_right ?a_same_kind ?l_same_kind ?c_same_kind ?k_same_kind ?a_l_same_right ?l_l_same_right ?c_l_same_right ?k_l_same_right ?a_law ?l_law ?c_law ?k_law ?km_Plain ?kin_Plain ?kif_Plain ?kk_Plain ?km_Pointed ?kin_Pointed ?kif_Pointed ?kk_Pointed ?km_Signed ?kin_Signed ?kif_Signed ?kk_Signed ?ct_Kind___init__ ?cr_Kind___init__ ?cg_Kind___init__ ?cv_Kind___init__ ?ag_LEAST_WIDTH ?ag_GREATEST_WIDTH ?zz_max ?zz_isinstance ?zz_bool ?zz_int ?zz_len ?zz_abs ?zz_tuple ?zz_range ?zz_min ?zz_list)
    (case ak_Kind => k_is)
    (case kp_Kind => k_is)
    (case ak_Plain => k_is)
    (case kp_Plain => k_is)
    (case ak_Pointed => k_is)
    (case kp_Pointed => k_is)
    (case ak_Signed => k_is)
    (case kp_Signed => k_is)
    (case ma_Plain_word => k_is)
    (case ma_Signed_word => k_is)
    (case ma_Pointed_word => k_is)
    (case ma_Plain_least => k_is)
    (case ma_Pointed_least => k_is)
    (case ma_Signed_least => k_is)
    (case ma_Plain_greatest => k_is)
    (case ma_Pointed_greatest => k_is)
    (case ma_Signed_greatest => k_is)
    (case ma_Plain_count_of => k_is)
    (case ma_Pointed_count_of => k_is)
    (case ma_Signed_count_of => k_is)
    (case ma_Plain_value_of => k_is)
    (case ma_Pointed_value_of => k_is)
    (case ma_Signed_value_of => k_is)
    (case ma_Plain_is_count => k_is)
    (case ma_Pointed_is_count => k_is)
    (case ma_Signed_is_count => k_is)
    (case ma_Plain_bits_of => k_is)
    (case ma_Pointed_bits_of => k_is)
    (case ma_Signed_bits_of => k_is)
    (case kin_Plain => k_is)
    (case kin_Pointed => k_is)
    (case kin_Signed => k_is)
    (case ct_Kind___init__ => k_is)
    (case cv_Kind___init__ => k_is)
    (case kh_Kind => k_is)
    (case ko_Kind => k_is)
    (case ks_Kind => k_is)
    (case kh_Plain => k_is)
    (case ko_Plain => k_is)
    (case ks_Plain => k_is)
    (case kh_Pointed => k_is)
    (case ko_Pointed => k_is)
    (case ks_Pointed => k_is)
    (case kh_Signed => k_is)
    (case ko_Signed => k_is)
    (case ks_Signed => k_is)
    (case ica_Plain => k_is)
    (case icn_Plain => k_is)
    (case ict_Plain => k_is)
    (case icm_Plain => k_is)
    (case ica_Pointed => k_is)
    (case icn_Pointed => k_is)
    (case ict_Pointed => k_is)
    (case icm_Pointed => k_is)
    (case ica_Signed => k_is)
    (case icn_Signed => k_is)
    (case ict_Signed => k_is)
    (case icm_Signed => k_is)
    (case k1_kic_Plain_Kind => first | rfl | decide)
    (case k2_kic_Plain_Kind => k_is)
    (case k3_kic_Plain_Kind => k_is)
    (case k4_kic_Plain_Kind => k_is)
    (case k1_kic_Plain_Pointed => first | rfl | decide)
    (case k2_kic_Plain_Pointed => k_is)
    (case k3_kic_Plain_Pointed => k_is)
    (case k4_kic_Plain_Pointed => k_is)
    (case k1_kic_Plain_Signed => first | rfl | decide)
    (case k2_kic_Plain_Signed => k_is)
    (case k3_kic_Plain_Signed => k_is)
    (case k4_kic_Plain_Signed => k_is)
    (case k1_kic_Pointed_Kind => first | rfl | decide)
    (case k2_kic_Pointed_Kind => k_is)
    (case k3_kic_Pointed_Kind => k_is)
    (case k4_kic_Pointed_Kind => k_is)
    (case k1_kic_Pointed_Plain => first | rfl | decide)
    (case k2_kic_Pointed_Plain => k_is)
    (case k3_kic_Pointed_Plain => k_is)
    (case k4_kic_Pointed_Plain => k_is)
    (case k1_kic_Pointed_Signed => first | rfl | decide)
    (case k2_kic_Pointed_Signed => k_is)
    (case k3_kic_Pointed_Signed => k_is)
    (case k4_kic_Pointed_Signed => k_is)
    (case k1_kic_Signed_Kind => first | rfl | decide)
    (case k2_kic_Signed_Kind => k_is)
    (case k3_kic_Signed_Kind => k_is)
    (case k4_kic_Signed_Kind => k_is)
    (case k1_kic_Signed_Plain => first | rfl | decide)
    (case k2_kic_Signed_Plain => k_is)
    (case k3_kic_Signed_Plain => k_is)
    (case k4_kic_Signed_Plain => k_is)
    (case k1_kic_Signed_Pointed => first | rfl | decide)
    (case k2_kic_Signed_Pointed => k_is)
    (case k3_kic_Signed_Pointed => k_is)
    (case k4_kic_Signed_Pointed => k_is)
    (case nah_Plain_point => k_is)
    (case nah_Plain_width => k_is)
    (case nah_Pointed_point => k_is)
    (case nah_Pointed_width => k_is)
    (case nah_Signed_point => k_is)
    (case nah_Signed_width => k_is)
    (case a_l_box => k_is)
    (case l_l_box => k_is)
    (case c_l_box => k_is)
    (case k_l_box => k_is)
    (case a_l_take => k_is)
    (case l_l_take => k_is)
    (case c_l_take => k_is)
    (case k_l_take => k_is)
    (case a_l_spec => k_is)
    (case l_l_spec => k_is)
    (case c_l_spec => k_is)
    (case k_l_spec => k_is)
    (case a_is_whole => k_is)
    (case l_is_whole => k_is)
    (case c_is_whole => k_is)
    (case k_is_whole => k_is)
    (case a_need_width => k_is)
    (case l_need_width => k_is)
    (case c_need_width => k_is)
    (case k_need_width => k_is)
    (case l_Kind___init__ => k_is)
    (case c_Kind___init__ => k_is)
    (case k_Kind___init__ => k_is)
    (case l_Pointed___init__ => k_is)
    (case c_Pointed___init__ => k_is)
    (case k_Pointed___init__ => k_is)
    (case l_Plain___init__ => k_is)
    (case c_Plain___init__ => k_is)
    (case k_Plain___init__ => k_is)
    (case l_Signed___init__ => k_is)
    (case c_Signed___init__ => k_is)
    (case k_Signed___init__ => k_is)
    (case a_l_kind => k_is)
    (case l_l_kind => k_is)
    (case c_l_kind => k_is)
    (case k_l_kind => k_is)
    (case a_l_cell => k_is)
    (case l_l_cell => k_is)
    (case c_l_cell => k_is)
    (case k_l_cell => k_is)
    (case a_l_bits => k_is)
    (case l_l_bits => k_is)
    (case c_l_bits => k_is)
    (case k_l_bits => k_is)
    (case a_l_ends => k_is)
    (case l_l_ends => k_is)
    (case c_l_ends => k_is)
    (case k_l_ends => k_is)
    (case l_Plain_word => k_is)
    (case c_Plain_word => k_is)
    (case k_Plain_word => k_is)
    (case mf_Plain_word => k_is)
    (case l_Kind_word => k_is)
    (case c_Kind_word => k_is)
    (case k_Kind_word => k_is)
    (case mf_Signed_word => k_is)
    (case l_Pointed_word => k_is)
    (case c_Pointed_word => k_is)
    (case k_Pointed_word => k_is)
    (case mf_Pointed_word => k_is)
    (case l_Plain_least => k_is)
    (case c_Plain_least => k_is)
    (case k_Plain_least => k_is)
    (case mf_Plain_least => k_is)
    (case l_Kind_least => k_is)
    (case c_Kind_least => k_is)
    (case k_Kind_least => k_is)
    (case mf_Pointed_least => k_is)
    (case mf_Signed_least => k_is)
    (case l_Plain_greatest => k_is)
    (case c_Plain_greatest => k_is)
    (case k_Plain_greatest => k_is)
    (case mf_Plain_greatest => k_is)
    (case l_Kind_greatest => k_is)
    (case c_Kind_greatest => k_is)
    (case k_Kind_greatest => k_is)
    (case mf_Pointed_greatest => k_is)
    (case mf_Signed_greatest => k_is)
    (case a_l_whole => k_is)
    (case l_l_whole => k_is)
    (case c_l_whole => k_is)
    (case k_l_whole => k_is)
    (case a_l_about => k_is)
    (case l_l_about => k_is)
    (case c_l_about => k_is)
    (case k_l_about => k_is)
    (case a_l_words_at => k_is)
    (case l_l_words_at => k_is)
    (case c_l_words_at => k_is)
    (case k_l_words_at => k_is)
    (case a_l_shared => k_is)
    (case l_l_shared => k_is)
    (case c_l_shared => k_is)
    (case k_l_shared => k_is)
    (case a_l_value_right => k_is)
    (case l_l_value_right => k_is)
    (case c_l_value_right => k_is)
    (case k_l_value_right => k_is)
    (case l_Kind_count_of => k_is)
    (case c_Kind_count_of => k_is)
    (case k_Kind_count_of => k_is)
    (case mf_Plain_count_of => k_is)
    (case mf_Pointed_count_of => k_is)
    (case mf_Signed_count_of => k_is)
    (case l_Kind_value_of => k_is)
    (case c_Kind_value_of => k_is)
    (case k_Kind_value_of => k_is)
    (case mf_Plain_value_of => k_is)
    (case mf_Pointed_value_of => k_is)
    (case mf_Signed_value_of => k_is)
    (case l_Kind_is_count => k_is)
    (case c_Kind_is_count => k_is)
    (case k_Kind_is_count => k_is)
    (case mf_Plain_is_count => k_is)
    (case mf_Pointed_is_count => k_is)
    (case mf_Signed_is_count => k_is)
    (case l_Kind_bits_of => k_is)
    (case c_Kind_bits_of => k_is)
    (case k_Kind_bits_of => k_is)
    (case mf_Plain_bits_of => k_is)
    (case mf_Pointed_bits_of => k_is)
    (case mf_Signed_bits_of => k_is)
    (case a_l_word_right => k_is)
    (case l_l_word_right => k_is)
    (case c_l_word_right => k_is)
    (case k_l_word_right => k_is)
    (case a_same_kind => k_is)
    (case l_same_kind => k_is)
    (case c_same_kind => k_is)
    (case k_same_kind => k_is)
    (case a_l_same_right => k_is)
    (case l_l_same_right => k_is)
    (case c_l_same_right => k_is)
    (case k_l_same_right => k_is)
    (case a_law => k_is)
    (case l_law => k_is)
    (case c_law => k_is)
    (case k_law => k_is)
    (case km_Plain => k_is)
    (case kif_Plain => k_is)
    (case kk_Plain => k_is)
    (case km_Pointed => k_is)
    (case kif_Pointed => k_is)
    (case kk_Pointed => k_is)
    (case km_Signed => k_is)
    (case kif_Signed => k_is)
    (case kk_Signed => k_is)
    (case cr_Kind___init__ => k_is)
    (case cg_Kind___init__ => k_is)
    (case ag_LEAST_WIDTH => k_is)
    (case ag_GREATEST_WIDTH => k_is)
    (case zz_max => k_is)
    (case zz_isinstance => k_is)
    (case zz_bool => k_is)
    (case zz_int => k_is)
    (case zz_len => k_is)
    (case zz_abs => k_is)
    (case zz_tuple => k_is)
    (case zz_range => k_is)
    (case zz_min => k_is)
    (case zz_list => k_is)
