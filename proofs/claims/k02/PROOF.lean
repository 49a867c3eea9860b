import PyProof.Rows.All
import Wide.All
import OpenK.AllK
import Wide.FinOn
import HandS.ForMost
import HandS.Wide
import HandS.WideBits
import HandS.IsInst
import HandS.Style
import HandS.ForExc
import HandS.New0
import HandS.ExcInit
import HandS.ExcIs
import HandS.ClsMeth
import HandS.NoneIn
import HandS.Conv
import KE.IntBitsLaws
import HandS.Rev
import PySem.Challenge.RW_overwise_k02_round_and_stopped
set_option Elab.async false
set_option linter.all false
set_option maxRecDepth 100000
set_option maxHeartbeats 20000000
/-! ### own rules and steps -/
namespace Ow
open PySem L2
section
variable {Q : VK} {H H' : Hp} {A B : Prop}
theorem gi {e : Int} (h : ∀ x, x = e → Q (.int x) H) : Q (.int e) H := h e rfl
theorem gl {e n : Int} (h : e = n) (q : Q (.int n) H) : Q (.int e) H := h ▸ q
theorem gs {e n : Str} (h : e = n) (q : Q (.str n) H) : Q (.str e) H := h ▸ q
theorem cc {v : V} {σ : L2.St} (h : Q v H) : tC v σ H Q := h
theorem p2 (k : Nat) : (0 : Int) < 2 ^ k := Int.pow_pos (by decide)
theorem gpow {k : Nat} (h : ∀ x, x = (2 : Int) ^ k → 0 < x → Q (.int x) H) : Q (.int (1 * 2 ^ k)) H := by
  rw [Int.one_mul]; exact h _ rfl (p2 k)
theorem gmod {i j : Int} (hj : 0 < j) (h : ∀ x, x = i % j → 0 ≤ x → x < j → Q (.int x) H) : Q (.int (i % j)) H :=
  h _ rfl (Int.emod_nonneg _ (by omega)) (Int.emod_lt_of_pos _ hj)
theorem gmax {i j : Int} (h : ∀ x, (i ≤ x ∧ j ≤ x ∧ (x = i ∨ x = j)) → Q (.int x) H) : Q (.int (if j > i then j else i)) H := by
  apply h; split <;> omega
theorem gmin {i j : Int} (h : ∀ x, (x ≤ i ∧ x ≤ j ∧ (x = i ∨ x = j)) → Q (.int x) H) : Q (.int (if j < i then j else i)) H := by
  apply h; split <;> omega
theorem max_ite {x i j : Int} (h : x = if j > i then j else i) : i ≤ x ∧ j ≤ x ∧ (x = i ∨ x = j) := by split at h <;> omega
theorem min_ite {x i j : Int} (h : x = if j < i then j else i) : x ≤ i ∧ x ≤ j ∧ (x = i ∨ x = j) := by split at h <;> omega
theorem abs_ite {x i : Int} (h : x = if i < 0 then -i else i) : (0 ≤ i ∧ x = i) ∨ (i < 0 ∧ x = -i) := by split at h <;> omega
theorem eqi {a b : Int} (h : a = b) (q : Q (.int b) H) : Q (.int a) H := h ▸ q
theorem eqb {a b : Bool} (h : a = b) (q : Q (.bl b) H) : Q (.bl a) H := h ▸ q
theorem eqd {P : Prop} [Decidable P] (h : P) (q : Q (.bl true) H) : Q (.bl (decide P)) H := by rw [decide_eq_true h]; exact q
theorem eqnd {P : Prop} [Decidable P] (h : ¬ P) (q : Q (.bl true) H) : Q (.bl (!decide P)) H := by rw [decide_eq_false h]; exact q
theorem eqeqi {i j : Int} (h : i = j) (q : Q (.bl true) H) : Q (.bl (decide (V.int i = V.int j))) H := by rw [decide_eq_true (by rw [h])]; exact q
theorem eqnei {i j : Int} (h : i ≠ j) (q : Q (.bl true) H) : Q (.bl (!decide (V.int i = V.int j))) H := by
  rw [decide_eq_false (fun z => h (V.int.inj z))]; exact q
theorem ginteq {i j : Int} (h : ∀ n : Int, ((n = 1 ∧ i = j) ∨ (n = 0 ∧ i ≠ j)) → Q (.int n) H) : Q (.int (if decide (V.int i = V.int j) = true then 1 else 0)) H := by
  by_cases e : i = j
  · rw [if_pos (decide_eq_true (by rw [e]))]; exact h _ (.inl ⟨rfl, e⟩)
  · rw [if_neg (fun z => e (V.int.inj (of_decide_eq_true z)))]; exact h _ (.inr ⟨rfl, e⟩)
theorem gintd {P : Prop} [Decidable P] (h : ∀ n : Int, ((n = 1 ∧ P) ∨ (n = 0 ∧ ¬ P)) → Q (.int n) H) : Q (.int (if decide P = true then 1 else 0)) H := by
  by_cases e : P
  · rw [if_pos (decide_eq_true e)]; exact h _ (.inl ⟨rfl, e⟩)
  · rw [if_neg (fun z => e (of_decide_eq_true z))]; exact h _ (.inr ⟨rfl, e⟩)
theorem ifb {b : Bool} (h1 : b = true → A) (h2 : b = false → B) : if b = true then A else B := by
  cases b
  · exact iteF (h2 rfl)
  · exact iteT (h1 rfl)
/-- None or an int -/
def _root_.L2.V.ov : Option Int → V
  | none => .non
  | some r => .int r
theorem ov_inj : ∀ {a b : Option Int}, V.ov a = V.ov b → a = b
  | none, none, _ => rfl
  | none, some r, h => V.noConfusion h
  | some r, none, h => V.noConfusion h
  | some r, some s, h => by rw [V.int.inj h]
theorem scal_ov : ∀ {a b : Option Int}, scal (V.ov a) (V.ov b) = true
  | none, none => rfl
  | none, some r => rfl
  | some r, none => rfl
  | some r, some s => rfl
theorem ifeqo {a b : Option Int} (h1 : a = b → A) (h2 : a ≠ b → B) : if decide (V.ov a = V.ov b) = true then A else B := by
  by_cases e : a = b
  · rw [if_pos (decide_eq_true (by rw [e]))]; exact h1 e
  · rw [if_neg (fun z => e (ov_inj (of_decide_eq_true z)))]; exact h2 e
theorem ifneo {a b : Option Int} (h1 : a ≠ b → A) (h2 : a = b → B) : if (!decide (V.ov a = V.ov b)) = true then A else B := by
  by_cases e : a = b
  · rw [decide_eq_true (show V.ov a = V.ov b by rw [e])]; exact iteF (h2 e)
  · rw [decide_eq_false (fun z => e (ov_inj z))]; exact iteT (h1 e)
theorem eqeqo {a b : Option Int} (h : a = b) (q : Q (.bl true) H) : Q (.bl (decide (V.ov a = V.ov b))) H := by rw [decide_eq_true (by rw [h])]; exact q
theorem ifnb {b : Bool} (h1 : b = false → A) (h2 : b = true → B) : if (!b) = true then A else B := by
  cases b
  · exact iteT (h1 rfl)
  · exact iteF (h2 rfl)
theorem ifd {P : Prop} [Decidable P] (h1 : P → A) (h2 : ¬ P → B) : if decide P = true then A else B := by
  by_cases e : P
  · rw [if_pos (decide_eq_true e)]; exact h1 e
  · rw [if_neg (fun z => e (of_decide_eq_true z))]; exact h2 e
theorem ifnd {P : Prop} [Decidable P] (h1 : ¬ P → A) (h2 : P → B) : if (!decide P) = true then A else B := by
  by_cases e : P
  · rw [decide_eq_true e]; exact iteF (h2 e)
  · rw [decide_eq_false e]; exact iteT (h1 e)
theorem ifeqi {i j : Int} (h1 : i = j → A) (h2 : i ≠ j → B) : if decide (V.int i = V.int j) = true then A else B :=
  ifd (fun e => h1 (V.int.inj e)) (fun e => h2 (fun z => e (by rw [z])))
theorem ifnei {i j : Int} (h1 : i ≠ j → A) (h2 : i = j → B) : if (!decide (V.int i = V.int j)) = true then A else B :=
  ifnd (fun e => h1 (fun z => e (by rw [z]))) (fun e => h2 (V.int.inj e))
theorem ifeqs {i j : Str} (h1 : i = j → A) (h2 : i ≠ j → B) : if decide (V.str i = V.str j) = true then A else B :=
  ifd (fun e => h1 (V.str.inj e)) (fun e => h2 (fun z => e (by rw [z])))
theorem ifnes {i j : Str} (h1 : i ≠ j → A) (h2 : i = j → B) : if (!decide (V.str i = V.str j)) = true then A else B :=
  ifnd (fun e => h1 (fun z => e (by rw [z]))) (fun e => h2 (V.str.inj e))
theorem ifeqb {a b : Bool} (h1 : (a = true ↔ b = true) → A) (h2 : ¬ (a = true ↔ b = true) → B) : if decide (V.bl a = V.bl b) = true then A else B :=
  ifd (fun e => h1 (by rw [V.bl.inj e])) (fun e => h2 (fun z => e (by rw [Bool.eq_iff_iff.mpr z])))
theorem ifneb {a b : Bool} (h1 : ¬ (a = true ↔ b = true) → A) (h2 : (a = true ↔ b = true) → B) : if (!decide (V.bl a = V.bl b)) = true then A else B :=
  ifnd (fun e => h1 (fun z => e (by rw [Bool.eq_iff_iff.mpr z]))) (fun e => h2 (by rw [V.bl.inj e]))
/-! heaps -/
theorem at_new {p q : Addr} {u o : HO} (hp : H p = none) (h : H q = some o) : upd H p u q = some o := by rw [upd_ne (ne_of_none h hp)]; exact h
theorem at_mut {b q : Addr} {u o : HO} (hn : q ≠ b) (h : H q = some o) : upd H b u q = some o := by rw [upd_ne hn]; exact h
theorem ne_tl {p b : Addr} {xs ys : List V} (h : H p = some (.tup xs)) (hb : H b = some (.lst ys)) : p ≠ b := fun e => by rw [e, hb] at h; cases h
theorem at_mutT {b p : Addr} {u : HO} {xs ys : List V} (hb : H b = some (.lst ys)) (h : H p = some (.tup xs)) : upd H b u p = some (.tup xs) := at_mut (ne_tl h hb) h
theorem at_mutL {b p : Addr} {u : HO} {xs ys : List V} (hb : H b = some (.tup ys)) (h : H p = some (.lst xs)) : upd H b u p = some (.lst xs) := at_mut (fun e => ne_tl hb h e.symm) h
theorem same_new {p : Addr} {u : HO} (hp : H p = none) : Same H (upd H p u) := fun _ _ h => at_new hp h
theorem same_mut {b : Addr} {u : HO} (s : Same H H') (hb : H b = none) : Same H (upd H' b u) := fun q o h => by rw [upd_ne (ne_of_none h hb)]; exact s q o h
theorem ne_sym {a b : Addr} (h : a ≠ b) : b ≠ a := fun z => h z.symm
theorem seq {K : PySem.W.Frag} {a : Addr} {xs : List V} (e : Same H H') (h : SqL K H a xs) : SqL K H' a xs := e.seq h
theorem seqT {K : PySem.W.Frag} {a : Addr} {xs : List V} (e : Same H H') (h : SqT K H a xs) : SqT K H' a xs := by
  rcases h with (h | ⟨o, h⟩) | h
  · exact .inl (.inl (e _ _ h))
  · exact .inl (.inr ⟨o, e _ _ h⟩)
  · exact .inr h
end
/-! operators -/
section
variable {X : Cx}
/-- named answers -/
theorem op_mulN : OpR X (binaryOp .Mult) (fun x y H Q => ∃ i j, x = .int i ∧ y = .int j ∧ (CMul i j ∨ CMulX i j) ∧ ∀ z, z = i * j → Q (.int z) H) := by
  intro pins s σ H x y v u Q I rx ry q
  obtain ⟨i, j, rfl, rfl, hc | hc, q⟩ := q
  · exact op_mul pins s σ H _ _ v u Q I rx ry ⟨i, j, rfl, rfl, hc, q _ rfl⟩
  · exact op_mulX pins s σ H _ _ v u Q I rx ry ⟨i, j, rfl, rfl, hc, q _ rfl⟩
theorem op_divN : OpR X (binaryOp .FloorDiv) (fun x y H Q => ∃ i j, x = .int i ∧ y = .int j ∧ CDivW i j ∧ ∀ z, z = i / j → Q (.int z) H) := by
  intro pins s σ H x y v u Q I rx ry q
  obtain ⟨i, j, rfl, rfl, hc, q⟩ := q
  exact op_fdivW pins s σ H _ _ v u Q I rx ry ⟨i, j, rfl, rfl, hc, q _ rfl⟩
theorem op_divF : OpR X (binaryOp .FloorDiv) (fun x y H Q => ∃ i j, x = .int i ∧ y = .int j ∧ (j ≠ 0 ∧ j.natAbs.log2 < 9000) ∧ ∀ z, z = i.fdiv j → Q (.int z) H) := by
  intro pins s σ H x y v u Q I rx ry q
  obtain ⟨i, j, rfl, rfl, hc, q⟩ := q
  obtain ⟨t, rfl⟩ := rx
  obtain ⟨t', rfl⟩ := ry
  exact PyProof.Rows.floordiv_int hc.1 ⟨.int (i.fdiv j), H, I.tok _, ⟨_, rfl⟩, q _ rfl⟩ (.inl (PyProof.noPylong_of_log2 hc.2))
theorem op_shlN : OpR X (binaryOp .LShift) (fun x y H Q => ∃ i j, x = .int i ∧ y = .int j ∧ (CPow i j ∨ CShl i j) ∧ ∀ z, z = i * 2 ^ j.toNat → Q (.int z) H) := by
  intro pins s σ H x y v u Q I rx ry q
  obtain ⟨i, j, rfl, rfl, hc | hc, q⟩ := q
  · exact op_shl pins s σ H _ _ v u Q I rx ry ⟨i, j, rfl, rfl, hc, q _ rfl⟩
  · exact op_shlW pins s σ H _ _ v u Q I rx ry ⟨i, j, rfl, rfl, hc, q _ rfl⟩
theorem op_shrN : OpR X (binaryOp .RShift) (fun x y H Q => ∃ i j, x = .int i ∧ y = .int j ∧ 0 ≤ j ∧ ∀ z, z = i / 2 ^ j.toNat → Q (.int z) H) := by
  intro pins s σ H x y v u Q I rx ry q
  obtain ⟨i, j, rfl, rfl, hc, q⟩ := q
  exact op_shr pins s σ H _ _ v u Q I rx ry ⟨i, j, rfl, rfl, hc, q _ rfl⟩
theorem op_modN : OpR X (binaryOp .Mod) (fun x y H Q => ∃ i j, x = .int i ∧ y = .int j ∧ 0 < j ∧ ∀ z, z = i % j → 0 ≤ z → z < j → Q (.int z) H) := by
  intro pins s σ H x y v u Q I rx ry q
  obtain ⟨i, j, rfl, rfl, hc, q⟩ := q
  exact op_mod pins s σ H _ _ v u Q I rx ry ⟨i, j, rfl, rfl, hc, q _ rfl (Int.emod_nonneg _ (by omega)) (Int.emod_lt_of_pos _ hc)⟩
theorem op_shl1 : OpR X (binaryOp .LShift) (fun x y H Q => ∃ j, x = .int 1 ∧ y = .int j ∧ (0 ≤ j ∧ j ≤ 1000000) ∧ ∀ z, z = 2 ^ j.toNat → 0 < z → Q (.int z) H) := by
  intro pins s σ H x y v u Q I rx ry q
  obtain ⟨j, rfl, rfl, ⟨h0, h1⟩, q⟩ := q
  refine op_shl pins s σ H _ _ v u Q I rx ry ⟨1, j, rfl, rfl, ⟨h0, h1, by decide⟩, ?_⟩
  show Q (.int (1 * 2 ^ j.toNat)) H
  rw [Int.one_mul]
  exact q _ rfl (p2 _)
theorem op_mask : OpR X (binaryOp .BitAnd) (fun x y H Q => ∃ (i j : Int) (k : Nat), x = .int i ∧ y = .int j ∧ j = 2 ^ k - 1 ∧ ∀ r, r = i % 2 ^ k → 0 ≤ r → r < 2 ^ k → Q (.int r) H) := by
  intro pins s σ H x y v u Q I rx ry h
  obtain ⟨i, j, k, rfl, rfl, rfl, q⟩ := h
  refine op_andM pins s σ H _ _ v u Q I rx ry ⟨i, k, rfl, rfl, q _ rfl (Int.emod_nonneg _ ?_) (Int.emod_lt_of_pos _ (p2 k))⟩
  have := p2 k; omega
theorem op_bor : OpR X (binaryOp .BitOr) (fun x y H Q => ∃ (i j : Int), x = .int i ∧ y = .int j ∧ 0 ≤ i ∧ 0 ≤ j ∧ ∀ r, r = Builtin.bitOr i j → 0 ≤ r → Q (.int r) H) := by
  intro pins s σ H x y v u Q I rx ry h
  obtain ⟨i, j, rfl, rfl, h0, h1, q⟩ := h
  refine op_or pins s σ H _ _ v u Q I rx ry ⟨i, j, rfl, rfl, q _ rfl ?_⟩
  rw [bitOr_nn h0 h1]
  exact Int.natCast_nonneg _
theorem call_dm : CallR X (.builtin "divmod") (fun xs H Q => ∃ i j, xs = [.int i, .int j] ∧ CDivP i j ∧ ∀ q r p, q = i / j → r = i % j → 0 ≤ r → r < j → H p = none → Q (.ref p) (upd H p (.tup [.int q, .int r]))) := by
  intro pins s σ H xs us Q I r h
  obtain ⟨i, j, rfl, hc, q⟩ := h
  exact call_divmodW pins s σ H _ us Q I r ⟨i, j, rfl, hc, fun p hp => q _ _ p rfl rfl (Int.emod_nonneg _ (by have := hc.1; omega)) (Int.emod_lt_of_pos _ hc.1) hp⟩
theorem call_intb : CallR X (.type "int") (fun xs H Q => ∃ k, xs = [.bl k] ∧ ∀ n : Int, ((n = 1 ∧ k = true) ∨ (n = 0 ∧ k = false)) → Q (.int n) H) := by
  intro pins s σ H xs us Q I r h
  obtain ⟨k, rfl, q⟩ := h
  refine call_int1 pins s σ H _ us Q I r (.inr ⟨k, rfl, ?_⟩)
  cases k
  · exact q _ (.inr ⟨rfl, rfl⟩)
  · exact q _ (.inl ⟨rfl, rfl⟩)
/-- an int's value by a name -/
def tNmi (t : TE) : TE := fun σ H Q => t σ H fun v H1 => ∃ i, v = .int i ∧ ∀ x, x = i → Q (.int x) H1
theorem pe_nmi {e : Expr} {t : TE} (h : PE X e t) : PE X e (tNmi t) := ⟨fun pins s σ H Q I q => thn (h.run pins s σ H _ I q) fun _ _ z => by
  obtain ⟨v, H1, I1, r1, i, rfl, q1⟩ := z
  exact ⟨.int i, H1, I1, r1, q1 i rfl⟩⟩
/-- a reckoned constant -/
def tLit (n : Int) (t : TE) : TE := fun σ H Q => t σ H fun v H1 => v = .int n ∧ Q (.int n) H1
theorem pe_lit (n : Int) {e : Expr} {t : TE} (h : PE X e t) : PE X e (tLit n t) := ⟨fun pins s σ H Q I q => thn (h.run pins s σ H _ I q) fun _ _ z => by
  obtain ⟨v, H1, I1, r1, rfl, q1⟩ := z
  exact ⟨.int n, H1, I1, r1, q1⟩⟩
end
theorem pow2_mono {a b : Nat} (h : a ≤ b) : (2 : Int) ^ a ≤ 2 ^ b := by
  have e : (2 : Int) ^ b = 2 ^ a * 2 ^ (b - a) := by rw [← Int.pow_add, show a + (b - a) = b by omega]
  rw [e]
  have h1 := p2 a
  have h2 := p2 (b - a)
  calc (2 : Int) ^ a = 2 ^ a * 1 := by omega
    _ ≤ 2 ^ a * 2 ^ (b - a) := Int.mul_le_mul_of_nonneg_left (by omega) (by omega)
theorem pow2_pred {w : Int} (h : 1 ≤ w) : (2 : Int) ^ w.toNat = 2 * 2 ^ (w - 1).toNat := by
  have e : w.toNat = (w - 1).toNat + 1 := by omega
  rw [e, Int.pow_succ, Int.mul_comm]
theorem pow2_lt {a b : Int} (h0 : 0 ≤ a) (h : a < b) : (2 : Int) ^ a.toNat < 2 ^ b.toNat := by
  have h1 := pow2_mono (a := a.toNat) (b := (b - 1).toNat) (by omega)
  have h2 := pow2_pred (w := b) (by omega)
  have h3 := p2 (b - 1).toNat
  omega
theorem pow2_le32 {w : Int} (h : w ≤ 32) : (2 : Int) ^ w.toNat ≤ 4294967296 := pow2_mono (b := 32) (by omega)
theorem pow2_le64 {w : Int} (h : w ≤ 64) : (2 : Int) ^ w.toNat ≤ 18446744073709551616 := pow2_mono (b := 64) (by omega)
theorem divw64 {i j : Int} (h0 : 0 < j) (h : j ≤ 18446744073709551616) : CDivW i j := wide_div h0 (b := 65) (by omega) (by decide) (by decide)
/-! sizes -/
def Sz (n : Nat) (i : Int) : Prop := i.natAbs < 2 ^ n
theorem Sz.lit {n : Nat} {i : Int} (h : i.natAbs < 2 ^ n) : Sz n i := h
theorem Sz.mono {a b : Nat} {i : Int} (h : Sz a i) (hab : a ≤ b) : Sz b i := Nat.lt_of_lt_of_le h (Nat.pow_le_pow_right (by decide) hab)
theorem Sz.mul {a b : Nat} {i j : Int} (h : Sz a i) (h' : Sz b j) : Sz (a + b) (i * j) := wide_lt h h'
theorem Sz.le {a : Nat} {i j : Int} (h : Sz a i) (hl : j.natAbs ≤ i.natAbs) : Sz a j := Nat.lt_of_le_of_lt hl h
theorem Sz.add {a : Nat} {i j : Int} (h : Sz a i) (h' : Sz a j) : Sz (a + 1) (i + j) := by
  unfold Sz at *
  rw [Nat.pow_succ]
  have := Int.natAbs_add_le i j
  omega
theorem Sz.neg {a : Nat} {i : Int} (h : Sz a i) : Sz a (-i) := by unfold Sz at *; rw [Int.natAbs_neg]; exact h
theorem Sz.sub {a : Nat} {i j : Int} (h : Sz a i) (h' : Sz a j) : Sz (a + 1) (i - j) := by
  rw [Int.sub_eq_add_neg]; exact h.add h'.neg
theorem Sz.pow {k : Int} {n : Nat} (h : k ≤ n) : Sz (n + 1) (2 ^ k.toNat) := by
  unfold Sz
  rw [Int.natAbs_pow]
  exact Nat.pow_lt_pow_right (by decide) (by omega)
theorem Sz.shl {a n : Nat} {i k : Int} (h : Sz a i) (hk : k ≤ n) : Sz (a + (n + 1)) (i * 2 ^ k.toNat) := h.mul (Sz.pow hk)
theorem Sz.div {a : Nat} {i j : Int} (h : Sz a i) (hj : 0 < j) : Sz a (i / j) := by
  refine h.le ?_
  have h1 := Int.ediv_mul_add_emod i j
  have h2 := Int.emod_nonneg i (show j ≠ 0 by omega)
  have h3 := Int.emod_lt_of_pos i hj
  by_cases hi : i < 0
  · have h4 : i ≤ i / j := by
      refine (Int.le_ediv_iff_mul_le hj).mpr ?_
      have : i * 1 ≥ i * j := Int.mul_le_mul_of_nonpos_left (by omega) (by omega)
      omega
    have h5 : i / j < 0 := Int.ediv_neg_of_neg_of_pos hi hj
    omega
  · have h4 : i / j ≤ i := Int.ediv_le_self _ (by omega)
    have h5 : 0 ≤ i / j := Int.ediv_nonneg (by omega) (by omega)
    omega
theorem Sz.rng {n : Nat} {i j : Int} (h0 : 0 ≤ i) (h1 : i < j) (h : j.natAbs ≤ 2 ^ n) : Sz n i := by
  unfold Sz; omega
theorem Sz.md {n : Nat} {i j : Int} (h0 : 0 ≤ i) (h1 : i < j) (h : Sz n j) : Sz n i := by
  unfold Sz at *; omega
theorem Sz.or {n : Nat} {x i j : Int} (h : x = i ∨ x = j) (hi : Sz n i) (hj : Sz n j) : Sz n x := by rcases h with rfl | rfl <;> assumption
theorem Sz.abs {n : Nat} {x i : Int} (h : Sz n i) (hx : x = if i < 0 then -i else i) : Sz n x := by
  refine h.le ?_; split at hx <;> omega
theorem mul0 {i j : Int} (h : -(2 ^ 64) < i ∧ i < 2 ^ 64) : CMul i j ∨ CMulX i j := .inl (.inl h)
theorem mul1 {i j : Int} (h : -(2 ^ 64) < j ∧ j < 2 ^ 64) : CMul i j ∨ CMulX i j := .inl (.inr h)
theorem shl0 {i j : Int} (h : 0 ≤ j) (h' : j ≤ 1000000) (h2 : i.natAbs < 2 ^ 64) : CPow i j ∨ CShl i j := .inl ⟨h, h', h2⟩
theorem szW {i : Int} (h : -(2 ^ 200) < i ∧ i < 2 ^ 200) : Sz 200 i := by unfold Sz; omega
theorem mulW {i j : Int} (h : -(2 ^ 200) < i ∧ i < 2 ^ 200) (h' : -(2 ^ 200) < j ∧ j < 2 ^ 200) : CMul i j ∨ CMulX i j := .inr (mulx_ok (szW h) (szW h') (by decide))
theorem divW {i j : Int} (h : 0 < j) (h' : j < 2 ^ 200) : CDivW i j := wide_div h (b := 200) (szW ⟨by omega, h'⟩) (by decide) (by decide)
theorem shlW {i j : Int} (h : 0 ≤ j) (h' : j ≤ 1000) (h2 : -(2 ^ 200) < i ∧ i < 2 ^ 200) : CPow i j ∨ CShl i j := by
  obtain ⟨n, rfl⟩ := Int.eq_ofNat_of_zero_le h
  exact .inr (shl_ok (n := 200) (szW h2) (by omega))
theorem mulx {a b : Nat} {i j : Int} (h : Sz a i) (h' : Sz b j) (hl : a + b ≤ 134217728) : CMulX i j := mulx_ok h h' hl
theorem divz {b : Nat} {i j : Int} (h : 0 < j) (hb : Sz b j) (h0 : 0 < b) (h9 : b ≤ 9000) : CDivW i j := wide_div h hb h0 h9
theorem divzF {b : Nat} {j : Int} (h : j ≠ 0) (hb : Sz b j) (h0 : 0 < b) (h9 : b ≤ 9000) : j ≠ 0 ∧ j.natAbs.log2 < 9000 := ⟨h, Nat.lt_of_lt_of_le (PySem.Flt.log2_lt_of h0 hb) h9⟩
theorem eqdd {P P' : Prop} [Decidable P] [Decidable P'] {Q : VK} {H : Hp} (h : P ↔ P') (q : Q (.bl (decide P')) H) : Q (.bl (decide P)) H := by rw [decide_eq_decide.mpr h]; exact q
theorem eqeqb {i j : Bool} {Q : VK} {H : Hp} (h : i = j) (q : Q (.bl true) H) : Q (.bl (decide (V.bl i = V.bl j))) H := by rw [decide_eq_true (by rw [h])]; exact q
theorem ix_tupK {X : Cx} {K : PySem.W.Frag} (h : X.K = K) : IxR X (rIxT K) := h ▸ ix_tup
theorem ix_listK {X : Cx} {K : PySem.W.Frag} (h : X.K = K) : IxR X (rIxL K) := h ▸ ix_list
theorem call_lenK {X : Cx} {K : PySem.W.Frag} (h : X.K = K) : CallR X (.builtin "len") (fun xs H Q => ∃ p ys, xs = [.ref p] ∧ (SqL K H p ys ∨ SqT K H p ys) ∧ Q (.int ys.length) H) := h ▸ call_len_seq
theorem tyes {σ : L2.St} {H : Hp} {Q : Bool → Hp → Prop} (h : Q true H) : tYes σ H Q := h
theorem dmz {a : Nat} {i j : Int} (h : 0 < j) (hz : Sz a i) (ha : a ≤ 4000) : CDivP i j := divp_ok h (by have := PyProof.Rows.intBits_le hz; omega)
theorem dms {i j : Int} (h : 0 < j) (h0 : -(2 ^ 64) < i) (h1 : i < 2 ^ 64) : CDivP i j := dmz (a := 64) h (by unfold Sz; omega) (by decide)
theorem shlz {a n : Nat} {i j : Int} (h : Sz a i) (h0 : 0 ≤ j) (hj : j ≤ n) (hn : a + n ≤ 134217728) : CShl i j := by
  obtain ⟨k, rfl⟩ : ∃ k : Nat, j = k := ⟨j.toNat, by omega⟩
  exact shl_ok h (by omega)
/-- all but the object at b is as it was -/
def Fm (b : Addr) (H H' : Hp) : Prop := ∀ q o, q ≠ b → H q = some o → H' q = some o
theorem at_fmT {b p : Addr} {xs ys : List V} (f : Fm b H H') (hb : H b = some (.lst ys)) (h : H p = some (.tup xs)) : H' p = some (.tup xs) := f _ _ (ne_tl h hb) h
theorem Fm.refl {b : Addr} {H : Hp} : Fm b H H := fun _ _ _ h => h
theorem Fm.same {b : Addr} {H H1 H2 : Hp} (a : Fm b H H1) (s : Same H1 H2) : Fm b H H2 := fun q o n h => s q o (a q o n h)
theorem Fm.mut {b : Addr} {H H1 : Hp} {u : HO} (a : Fm b H H1) : Fm b H (upd H1 b u) := fun q o n h => by rw [upd_ne n]; exact a q o n h
theorem Fm.mutF {b c : Addr} {H H1 : Hp} {u : HO} (a : Fm b H H1) (hc : H c = none) : Fm b H (upd H1 c u) := fun q o n h => by rw [upd_ne (ne_of_none h hc)]; exact a q o n h
theorem Fm.trans {b : Addr} {H H1 H2 : Hp} (a : Fm b H H1) (s : Fm b H1 H2) : Fm b H H2 := fun q o n h => s q o n (a q o n h)
theorem Fm.frameF {b c : Addr} {H H1 H2 : Hp} (a : Fm b H H1) (s : Fm c H1 H2) (hc : H c = none) : Fm b H H2 := fun q o n h => s q o (ne_of_none h hc) (a q o n h)
theorem Fm.free {b : Addr} {H H' : Hp} (a : Fm b H H') {o : HO} {l : Addr} (hb : H' b = some o) (h : H' l = none) : H l = none := by
  cases e : H l with
  | none => rfl
  | some u =>
    have n : l ≠ b := fun z => by rw [z, hb] at h; cases h
    rw [a l u n e] at h; cases h
theorem same_frame {c : Addr} {H H1 H2 : Hp} (s : Same H H1) (f : Fm c H1 H2) (hc : H c = none) : Same H H2 := fun q o h => f q o (ne_of_none h hc) (s q o h)
/-! lists of ints -/
theorem szl {n : Nat} (h : n < 1000000) : n < sizeLine := Nat.lt_of_lt_of_le h (by decide)
theorem szle {n : Nat} (h : n ≤ 1000000) : n ≤ sizeLine := Nat.le_trans h (by decide)
section
variable {X : Cx} {K : PySem.W.Frag} {H H' : Hp} {Q : VK} {a : Addr}
theorem ap_ints {xs : List Int} {e : Int} (h : H a = some (.lst (xs.map V.int ++ [.int e]))) : H a = some (.lst ((xs ++ [e]).map V.int)) := by
  rw [List.map_append]; exact h
theorem set_ints {xs : List Int} {e : Int} {j : Nat} (h : H a = some (.lst ((xs.map V.int).set j (.int e)))) : H a = some (.lst ((xs.set j e).map V.int)) := by
  rw [List.map_set]; exact h
theorem dpAll_ints : ∀ xs : List Int, DpAll K H (xs.map V.int) (xs.map PyData.int)
  | [] => .nil
  | x :: xs => .cons (.int x) (dpAll_ints xs)
theorem dp_ints {xs : List Int} (h : SqL K H a (xs.map V.int)) : Dp K H (.ref a) (.list (xs.map PyData.int)) := .lst h (dpAll_ints xs)
theorem layAll_ints : ∀ xs : List Int, PyData.canLayAll0 (xs.map PyData.int) = true
  | [] => rfl
  | x :: xs => by
    rw [List.map_cons, PyData.canLayAll0, layAll_ints xs]
    rfl
theorem depAll_ints : ∀ xs : List Int, PyData.depthAll (xs.map PyData.int) = 0
  | [] => rfl
  | x :: xs => by
    rw [List.map_cons, PyData.depthAll, depAll_ints xs]
    rfl
theorem shaped_ints (xs : List Int) : SeqAt.shaped (.list (xs.map PyData.int)) = true := by
  unfold SeqAt.shaped
  rw [PyData.canLay0, PyData.depth, layAll_ints, depAll_ints]
  rfl
theorem shp {d : PyData} (h : PyData.canLay0 d = true) (g : PyData.depth d ≤ 64) : SeqAt.shaped d = true := by
  unfold SeqAt.shaped; rw [h]; simpa using g
theorem eqvAll_ints : ∀ xs ys : List Int, PyData.eqvAll (xs.map PyData.int) (ys.map PyData.int) = decide (xs = ys)
  | [], [] => rfl
  | [], _ :: _ => rfl
  | _ :: _, [] => rfl
  | x :: xs, y :: ys => by
    rw [List.map_cons, List.map_cons, PyData.eqvAll, PyData.eqv, eqvAll_ints xs ys]
    by_cases h : x = y
    · by_cases h2 : xs = ys <;> simp [h, h2]
    · simp [h]
theorem eqv_ints (xs ys : List Int) : PyData.eqv (.list (xs.map PyData.int)) (.list (ys.map PyData.int)) = decide (xs = ys) := by
  rw [PyData.eqv]; exact eqvAll_ints xs ys
theorem op_eqI (hu : X.A.units + 64 < cLine) : OpR X (compareOp .Eq) (fun x y H Q => ∃ (a b : Addr) (xs ys : List Int), x = .ref a ∧ y = .ref b ∧ SqL X.K H a (xs.map V.int) ∧ SqL X.K H b (ys.map V.int) ∧ Q (.bl (decide (xs = ys))) H) := by
  intro pins s σ H x y v u Q I rx ry h
  obtain ⟨a, b, xs, ys, rfl, rfl, h1, h2, q⟩ := h
  refine op_eqD hu pins s σ H _ _ v u Q I rx ry ⟨_, _, dp_ints h1, dp_ints h2, shaped_ints _, shaped_ints _, ?_⟩
  rw [eqv_ints]; exact q
theorem op_neI (hu : X.A.units + 64 < cLine) : OpR X (compareOp .NotEq) (fun x y H Q => ∃ (a b : Addr) (xs ys : List Int), x = .ref a ∧ y = .ref b ∧ SqL X.K H a (xs.map V.int) ∧ SqL X.K H b (ys.map V.int) ∧ Q (.bl (!decide (xs = ys))) H) := by
  intro pins s σ H x y v u Q I rx ry h
  obtain ⟨a, b, xs, ys, rfl, rfl, h1, h2, q⟩ := h
  refine op_neD hu pins s σ H _ _ v u Q I rx ry ⟨_, _, dp_ints h1, dp_ints h2, shaped_ints _, shaped_ints _, ?_⟩
  rw [eqv_ints]; exact q
theorem dpT_ints {xs : List Int} (h : SqT K H a (xs.map V.int)) : Dp K H (.ref a) (.tuple (xs.map PyData.int)) := .tup h (dpAll_ints xs)
theorem shapedT_ints (xs : List Int) : SeqAt.shaped (.tuple (xs.map PyData.int)) = true := by
  unfold SeqAt.shaped
  rw [PyData.canLay0, PyData.depth, layAll_ints, depAll_ints]
  rfl
theorem eqvT_ints (xs ys : List Int) : PyData.eqv (.tuple (xs.map PyData.int)) (.tuple (ys.map PyData.int)) = decide (xs = ys) := by
  rw [PyData.eqv]; exact eqvAll_ints xs ys
theorem op_eqT (hu : X.A.units + 64 < cLine) : OpR X (compareOp .Eq) (fun x y H Q => ∃ (a b : Addr) (xs ys : List Int), x = .ref a ∧ y = .ref b ∧ SqT X.K H a (xs.map V.int) ∧ SqT X.K H b (ys.map V.int) ∧ Q (.bl (decide (xs = ys))) H) := by
  intro pins s σ H x y v u Q I rx ry h
  obtain ⟨a, b, xs, ys, rfl, rfl, h1, h2, q⟩ := h
  refine op_eqD hu pins s σ H _ _ v u Q I rx ry ⟨_, _, dpT_ints h1, dpT_ints h2, shapedT_ints _, shapedT_ints _, ?_⟩
  rw [eqvT_ints]; exact q
theorem op_neT (hu : X.A.units + 64 < cLine) : OpR X (compareOp .NotEq) (fun x y H Q => ∃ (a b : Addr) (xs ys : List Int), x = .ref a ∧ y = .ref b ∧ SqT X.K H a (xs.map V.int) ∧ SqT X.K H b (ys.map V.int) ∧ Q (.bl (!decide (xs = ys))) H) := by
  intro pins s σ H x y v u Q I rx ry h
  obtain ⟨a, b, xs, ys, rfl, rfl, h1, h2, q⟩ := h
  refine op_neD hu pins s σ H _ _ v u Q I rx ry ⟨_, _, dpT_ints h1, dpT_ints h2, shapedT_ints _, shapedT_ints _, ?_⟩
  rw [eqvT_ints]; exact q
theorem flat_ints (xs : List Int) : (xs.map V.int).all flatV = true := by
  rw [List.all_map, List.all_eq_true]; intro x _; rfl
theorem inV_ints (i : Int) (xs : List Int) : inV (.int i) (xs.map V.int) = decide (i ∈ xs) := by
  unfold inV
  rw [Bool.eq_iff_iff, List.any_map, List.any_eq_true, decide_eq_true_eq]
  constructor
  · rintro ⟨y, hy, e⟩
    have : (y == i) = true := e
    rw [← beq_iff_eq.mp this]; exact hy
  · exact fun h => ⟨i, h, beq_self_eq_true i⟩
theorem op_inI : OpR X (compareOp .In) (fun x y H Q => ∃ (i : Int) (p : Addr) (xs : List Int), x = .int i ∧ y = .ref p ∧ SqL X.K H p (xs.map V.int) ∧ Q (.bl (decide (i ∈ xs))) H) := by
  intro pins s σ H x y v u Q I rx ry h
  obtain ⟨i, p, xs, rfl, rfl, hs, q⟩ := h
  refine op_in_seq pins s σ H _ _ v u Q I rx ry ⟨_, _, rfl, .inl hs, rfl, flat_ints xs, ?_⟩
  rw [if_neg Bool.false_ne_true, inV_ints]
  exact q
theorem op_notInI : OpR X (compareOp .NotIn) (fun x y H Q => ∃ (i : Int) (p : Addr) (xs : List Int), x = .int i ∧ y = .ref p ∧ SqL X.K H p (xs.map V.int) ∧ Q (.bl (!decide (i ∈ xs))) H) := by
  intro pins s σ H x y v u Q I rx ry h
  obtain ⟨i, p, xs, rfl, rfl, hs, q⟩ := h
  refine op_notIn_seq pins s σ H _ _ v u Q I rx ry ⟨_, _, rfl, .inl hs, rfl, flat_ints xs, ?_⟩
  rw [if_pos rfl, inV_ints]
  exact q
theorem ixN_nat {n j : Nat} (h : j < n) : ixN n (j : Int) = some j := by
  unfold ixN
  rw [if_pos (by omega), if_pos (by omega)]; simp
theorem ixlast {xs : List Int} (h : SqL K H a (xs.map V.int)) (h0 : 0 < xs.length) (q : ∀ y, xs.getLast? = some y → Q (.int y) H) : rIxL K (.ref a) (.int (-1)) H Q := by
  obtain ⟨y, hy⟩ : ∃ y, xs.getLast? = some y := by
    cases e : xs.getLast? with
    | none => rw [List.getLast?_eq_none_iff] at e; subst e; simp at h0
    | some y => exact ⟨y, rfl⟩
  refine ⟨a, _, _, .int y, rfl, rfl, h, ?_, q y hy⟩
  obtain ⟨ys, rfl⟩ := List.getLast?_eq_some_iff.mp hy
  rw [List.map_append]
  exact atI_last _ _
end
/-! items -/
section
variable {K : PySem.W.Frag} {H : Hp} {Q : VK} {a : Addr}
theorem ixi {xs : List Int} {i : Int} (h : SqL K H a (xs.map V.int)) (h0 : 0 ≤ i) (h1 : i < xs.length) (q : ∀ y, xs[i.toNat]? = some y → Q (.int y) H) : rIxL K (.ref a) (.int i) H Q := by
  obtain ⟨n, rfl⟩ : ∃ n : Nat, i = n := ⟨i.toNat, by omega⟩
  have hl : n < xs.length := by omega
  refine ⟨a, _, _, .int (xs[n]'hl), rfl, rfl, h, atI_nat ?_, q _ (List.getElem?_eq_getElem hl)⟩
  rw [List.getElem?_map, List.getElem?_eq_getElem hl]
  all_goals rfl
theorem inV_int {y : Int} {xs : List Int} (h : y ∈ xs) : (if false = true then !(inV (.int y) (xs.map V.int)) else inV (.int y) (xs.map V.int)) = true := by
  rw [if_neg Bool.false_ne_true]
  unfold inV
  rw [List.any_map, List.any_eq_true]
  exact ⟨y, h, by simp [eqV]⟩
theorem ixn {xs : List Int} {i : Int} (h : SqL K H a (xs.map V.int)) (h0 : 0 ≤ i) (h1 : i < xs.length) (q : ∀ y, xs[i.toNat]? = some y → Q (.int y) H) : rIxL K (.ref a) (.int i) H Q := ixi h h0 h1 q
theorem ixi2 {x0 x1 : Int} {i : Int} (h : SqL K H a [.int x0, .int x1]) (hi : 0 ≤ i ∧ i < 2) (q : ∀ y, ((i = 0 ∧ y = x0) ∨ (i = 1 ∧ y = x1)) → Q (.int y) H) : rIxL K (.ref a) (.int i) H Q := by
  refine ixi (xs := [x0, x1]) h hi.1 hi.2 fun y hy => q y ?_
  have : i = 0 ∨ i = 1 := by omega
  rcases this with rfl | rfl <;> simp at hy <;> omega
theorem ixt2 {x0 x1 : Int} {i : Int} (h : SqT K H a [.int x0, .int x1]) (hi : 0 ≤ i ∧ i < 2) (q : ∀ y, ((i = 0 ∧ y = x0) ∨ (i = 1 ∧ y = x1)) → Q (.int y) H) : rIxT K (.ref a) (.int i) H Q := by
  obtain ⟨n, rfl⟩ : ∃ n : Nat, i = n := ⟨i.toNat, by omega⟩
  have : n = 0 ∨ n = 1 := by omega
  rcases this with rfl | rfl
  · exact ⟨a, _, _, .int x0, rfl, rfl, h, atI_nat (j := 0) rfl, q _ (by simp)⟩
  · exact ⟨a, _, _, .int x1, rfl, rfl, h, atI_nat (j := 1) rfl, q _ (by simp)⟩
theorem ixs3 {x0 x1 x2 : Str} {i : Int} (h : SqL K H a [.str x0, .str x1, .str x2]) (hi : 0 ≤ i ∧ i < 3) (q : ∀ y, ((i = 0 ∧ y = x0) ∨ (i = 1 ∧ y = x1) ∨ (i = 2 ∧ y = x2)) → Q (.str y) H) : rIxL K (.ref a) (.int i) H Q := by
  obtain ⟨n, rfl⟩ : ∃ n : Nat, i = n := ⟨i.toNat, by omega⟩
  have : n = 0 ∨ n = 1 ∨ n = 2 := by omega
  rcases this with rfl | rfl | rfl
  · exact ⟨a, _, _, .str x0, rfl, rfl, h, atI_nat (j := 0) rfl, q _ (by simp)⟩
  · exact ⟨a, _, _, .str x1, rfl, rfl, h, atI_nat (j := 1) rfl, q _ (by simp)⟩
  · exact ⟨a, _, _, .str x2, rfl, rfl, h, atI_nat (j := 2) rfl, q _ (by simp)⟩
theorem gturn {n i : Nat} {σ : L2.St} {R : L2.St → Hp → Prop} (h : ∀ x : Int, x = (i : Int) → gName n (.int x) σ H R) : gName n (.int (0 + (i : Int))) σ H R := h _ (by omega)
theorem ints_get {xs : List Int} {i : Nat} {v : V} (h : (xs.map V.int)[i]? = some v) : ∃ n, v = .int n ∧ xs[i]? = some n := by
  rw [List.getElem?_map] at h
  cases e : xs[i]? with
  | none => rw [e] at h; cases h
  | some n => rw [e] at h; exact ⟨n, (Option.some.inj h).symm, rfl⟩
/-- the ints a .. b - 1 -/
def rgI (a b : Int) : List Int := (List.range (b - a).toNat).map fun i => a + (i : Nat)
theorem rg_at {a : Addr} {x y : Int} : upd H a (.lst (rgV x y)) a = some (.lst ((rgI x y).map V.int)) := by
  rw [upd_same]
  unfold rgV rgI
  rw [List.map_map]
  rfl
theorem rgI_mem {n y : Int} (h : y ∈ rgI 0 n) : 0 ≤ y ∧ y < n := by
  obtain ⟨j, hj, rfl⟩ := List.mem_map.mp h
  have := List.mem_range.mp hj
  omega
theorem rgI_rng {a b y : Int} (h : y ∈ rgI a b) : a ≤ y ∧ y < b := by
  obtain ⟨j, hj, rfl⟩ := List.mem_map.mp h
  have := List.mem_range.mp hj
  omega
theorem cat_at {a : Addr} {xs ys : List Int} : upd H a (.lst (xs.map V.int ++ ys.map V.int)) a = some (.lst ((xs ++ ys).map V.int)) := by
  rw [upd_same, List.map_append]
theorem szc {xs ys : List Int} {n : Nat} (h : xs.length + ys.length ≤ n) (hn : n ≤ sizeLine) : (xs.map V.int).length + (ys.map V.int).length ≤ sizeLine := by
  rw [List.length_map, List.length_map]; omega
/-! an if whose two ways meet again in one state -/
theorem join {tc : TT} {t1 t2 u : TS} {D : Ends} {σ : L2.St} {H : Hp} (Pv : L2.St → Hp → Prop) (h1 : ∀ N : L2.St → Hp → Prop, (∀ σ2 H2, Pv σ2 H2 → N σ2 H2) → tIfS tc t1 t2 { D with nx := N } σ H) (h2 : ∀ σ2 H2, Pv σ2 H2 → u D σ2 H2) : tSeq (tIfS tc t1 t2) u D σ H := h1 _ h2
theorem setc {i : Nat} {te : TE} {u : TS} {D : Ends} {σ : L2.St} {H : Hp} (v : V) (h : u D (σ.set i (some v)) H) (e : ∀ Q : VK, Q v H → te σ H Q := by exact fun _ z => z) : tSeq (tAsg te (gName i)) u D σ H := e _ h
theorem gnm {i : Nat} {v : V} {σ : L2.St} {H : Hp} {N bk ct : L2.St → Hp → Prop} {rt : VK} (h : N (σ.set i (some v)) H) : gName i v σ H (Ends.nx ⟨N, rt, bk, ct⟩) := h
theorem gnmS {i : Nat} {v : V} {σ σ' : L2.St} {H : Hp} {N bk ct : L2.St → Hp → Prop} {rt : VK} (e : σ.set i (some v) = σ') (h : N σ' H) : gName i v σ H (Ends.nx ⟨N, rt, bk, ct⟩) := by subst e; exact h
theorem tnx {σ : L2.St} {H : Hp} {N bk ct : L2.St → Hp → Prop} {rt : VK} (h : N σ H) : tNext ⟨N, rt, bk, ct⟩ σ H := h
theorem joinL {tc : TT} {t1 t2 : TS} {D : Ends} {σ : L2.St} {H : Hp} (Pv : L2.St → Hp → Prop) (h1 : ∀ N : L2.St → Hp → Prop, (∀ σ2 H2, Pv σ2 H2 → N σ2 H2) → tIfS tc t1 t2 { D with nx := N } σ H) (h2 : ∀ σ2 H2, Pv σ2 H2 → D.nx σ2 H2) : tIfS tc t1 t2 D σ H := h1 _ h2
/-! a for over a written list, turn by turn -/
def unr (K : PySem.W.Frag) (a : Addr) (xs : List V) (g : TG) (tb : TS) (D : Ends) : List V → L2.St → Hp → Prop
  | [], σ, H => SqL K H a xs ∧ D.nx σ H
  | x :: r, σ, H => SqL K H a xs ∧ g x σ H fun σ2 H2 => tb { D with nx := unr K a xs g tb D r, ct := unr K a xs g tb D r, bk := D.nx } σ2 H2
theorem un_start {xs : List V} {g : TG} {tb : TS} {D : Ends} {σ : L2.St} (h : unr K a xs g tb D xs σ H) :
    ∃ W : Nat → Nat → L2.St → Hp → Prop, (∃ m, W 0 m σ H) ∧ ∀ i m σ H, W i m σ H →
      ((Itl K a).stop i H ∧ D.nx σ H) ∨ ((Itl K a).go i H ∧ ∃ N : L2.St → Hp → Prop, (∀ σ' H', N σ' H' → ∃ m', m' < m ∧ W (i + 1) m' σ' H') ∧ ∀ x H', (Itl K a).yld i H x H' → g x σ H' fun σ2 H2 => tb { D with nx := N, ct := N, bk := D.nx } σ2 H2) := by
  refine ⟨fun i m σ H => m = xs.length - i ∧ i ≤ xs.length ∧ unr K a xs g tb D (xs.drop i) σ H, ⟨xs.length, by simp, Nat.zero_le _, h⟩, ?_⟩
  rintro i m σ H ⟨rfl, hi, p⟩
  by_cases hlt : i < xs.length
  · rw [List.drop_eq_getElem_cons hlt] at p
    obtain ⟨q, p⟩ := p
    refine .inr ⟨⟨xs, xs[i], q, by simp [hlt]⟩, unr K a xs g tb D (xs.drop (i + 1)), fun σ' H' p' => ⟨xs.length - (i + 1), by omega, rfl, hlt, p'⟩, fun x H' y => ?_⟩
    obtain ⟨e, y⟩ := y
    subst e
    have e2 := y xs q
    rw [List.getElem?_eq_getElem hlt] at e2
    cases e2
    exact p
  · have e : i = xs.length := by omega
    subst e
    rw [List.drop_length] at p
    obtain ⟨q, p⟩ := p
    exact .inl ⟨⟨xs, q, Nat.le_refl _⟩, p⟩
end
/-! a comprehension over a written list, turn by turn -/
def unlc (K : PySem.W.Frag) (a : Addr) (xs : List V) (g : TG) (tt : TT) (te : TE) (σ : L2.St) (vs : List Nat) (D : Addr) (Qd : Hp → Prop) : List V → Hp → Prop
  | [], H => SqL K H a xs ∧ Qd H
  | x :: r, H => SqL K H a xs ∧ g x (wipe σ vs) H fun σ2 H2 => wipe σ2 vs = wipe σ vs ∧ tt σ2 H2 fun b H3 =>
      if b = true then te σ2 H3 fun y H4 => ∃ acc, H4 D = some (.lst acc) ∧ acc.length < sizeLine ∧ unlc K a xs g tt te σ vs D Qd r (upd H4 D (.lst (acc ++ [y]))) else unlc K a xs g tt te σ vs D Qd r H3
theorem unlc_start {K : PySem.W.Frag} {a : Addr} {xs : List V} {g : TG} {tt : TT} {te : TE} {σ : L2.St} {vs : List Nat} {H1 : Hp} {D : Addr} {Qd : Hp → Prop} (h : unlc K a xs g tt te σ vs D Qd xs (upd H1 D (.lst []))) :
    ∃ W : Nat → Nat → Hp → Prop, (∃ m, W 0 m (upd H1 D (.lst []))) ∧ ∀ i m H, W i m H →
      ((Itl K a).stop i H ∧ Qd H) ∨ ((Itl K a).go i H ∧ ∃ Nx : Hp → Prop, (∀ H', Nx H' → ∃ m', m' < m ∧ W (i + 1) m' H') ∧ ∀ x H', (Itl K a).yld i H x H' → g x (wipe σ vs) H' fun σ2 H2 => wipe σ2 vs = wipe σ vs ∧ tt σ2 H2 fun b H3 =>
        if b = true then te σ2 H3 fun y H4 => ∃ acc, H4 D = some (.lst acc) ∧ acc.length < sizeLine ∧ Nx (upd H4 D (.lst (acc ++ [y]))) else Nx H3) := by
  refine ⟨fun i m H => m = xs.length - i ∧ i ≤ xs.length ∧ unlc K a xs g tt te σ vs D Qd (xs.drop i) H, ⟨xs.length, by simp, Nat.zero_le _, h⟩, ?_⟩
  rintro i m H ⟨rfl, hi, p⟩
  by_cases hlt : i < xs.length
  · rw [List.drop_eq_getElem_cons hlt] at p
    obtain ⟨q, p⟩ := p
    refine .inr ⟨⟨xs, xs[i], q, by simp [hlt]⟩, unlc K a xs g tt te σ vs D Qd (xs.drop (i + 1)), fun H' p' => ⟨xs.length - (i + 1), by omega, rfl, hlt, p'⟩, fun x H' y => ?_⟩
    obtain ⟨e, y⟩ := y
    subst e
    have e2 := y xs q
    rw [List.getElem?_eq_getElem hlt] at e2
    cases e2
    exact p
  · have e : i = xs.length := by omega
    subst e
    rw [List.drop_length] at p
    obtain ⟨q, p⟩ := p
    exact .inl ⟨⟨xs, q, Nat.le_refl _⟩, p⟩
/-- a def that stands behind the top -/
structure Dk (K : PySem.W.Frag) (mg : Str → Option Value) (x qual : Str) (st : Stmt) (ps : List Str) : Type where
  f : Addr
  fd : FuncData
  F : Fun K x qual st f fd
  b : Binds K fd ps []
  m : mg x = some (.ref f)
end Ow

namespace Ow
open PySem L2

section
variable {X : Cx} {e : Expr} {es : List Expr} {ta : TA} {b : Str} {B : Addr} {mc : Value} {p1 p2 pos : Pos}
open PyProof.Rows PySem.Spec in
/-- B.__init__(self, ..), B an own class whose __init__ is ValueError's -/
theorem pe_winit {pl : Sem Bool} (hg : Gl X b) (hm : X.mg b = some (.ref B)) (rd : ClX.CRead X.K B mc) (cv : PySem.W.findCls X.K (.ref B) mc "__init__" = some (.val (.builtin "ValueError.__init__"))) (ha : PA X (e :: es) ta)
    (hdb : (b == ("__debug__" : Str)) = false := by decide)
    (hc : eval (.Call (.Attribute (.Name b p1) "__init__" p2) (e :: es) [] pos) X.env = (do
      let ov ← eval (.Name b p1) X.env
      standAt p2.atName
      let (f, first) ← holding [ov] (getMethod ov "__init__" pl)
      callWith pos f first (backTo pos (starEach (e :: es) X.env)) (backToKw pos (keywordEach [] X.env))) := by rfl)
    (he : starEach (e :: es) X.env = (false, eval e X.env) :: starEach es X.env := by rfl) (hpl : (backTo pos (starEach es X.env)).any (·.1) = false := by rfl) :
    PE X (.Call (.Attribute (.Name b p1) "__init__" p2) (e :: es) [] pos) (tVeI X.K ta) := by
  refine ⟨fun pins s σ H Q I h => ?_⟩
  refine PySem.W.methodCall_KW (ld_glob I hg hm ?_ hdb) hc
  refine PySem.W.method_cls I.kIn rd.ga (PySem.W.cls_value I.kIn rd.rd cv (by decide +kernel) ?_)
  show wpAny _ _ (callWith pos (Value.builtin "ValueError.__init__") [] (backTo pos (starEach (e :: es) X.env)) []) _ _ _
  refine PyProof.Rows.callWith_method1 (thn (ha.run pos pins _ σ H _ (I.tok _) h) fun us s1 ⟨vs, H1, I1, r1, a, C, ws, ev, hl, T, ea, q⟩ => ?_) he hpl
  subst ev
  cases r1 with
  | @cons _ u0 _ ur ra rw' =>
    obtain rfl : u0 = Value.ref a := ra
    have hlen : ur.length ≤ sizeLine := by
      rw [← Paired.length rw', sizeLine_eq]
      omega
    exact oinit_ok T I1 ea hlen fun s' J => ⟨.non, H1, J, rfl, q⟩
/-- C(), C's own __init__ keeping sp, no field stored -/
def tMkN (C : Addr) (sp : Sp) : L2.St → Hp → XK → Prop := fun σ H1 Q => ∀ a, H1 a = none → sp [.ref a] (upd H1 a (exo a C none))
  (fun v H2 => v = .non ∧ H2 a = some (exo a C none) ∧ Q (.ref C) none (del H2 a)) (fun _ _ _ => False)
open PyProof.Rows PySem.Spec in
theorem mk_endN {pins : List (Addr × Obj)} {σ : L2.St} {H1 H2 : Hp} {hp hp2 h2 : Heap} {g1 g2 : Array GenState} {d1 d2 : Drawn} {t1 t2 : Nat} {os1 os2 : OsState} {a C : Addr} (I1 : L2.Inv X pins σ H1 ⟨hp, g1, d1, t1, os1⟩)
    (ha : hp.objs.size ≤ a) (k : ∀ b o, hp.get? b = some o → hp2.get? b = some o) (un : Un (frs X.stack) [] (upd H1 a (exo a C none)) H2 hp2 h2) (hok : HOk X.prog X.w H2 h2) (ho : os2 = os1) (hb : AllBare g2)
    (ea : H2 a = some (exo a C none)) :
    ∃ (t0 : Addr) (G : Heap), L2.Inv X pins σ (del H2 a) ⟨G, g2, d2, t2, os2⟩ ∧ (∀ b o, G.get? b = some o → h2.get? b = some o) ∧ G.get? a = none ∧
      h2.get? a = some ({ cls := .ref C, dict := none, data := .fields #[.ref t0, .none, .none, .none, .bool false, .none] } : Obj) ∧ (del H2 a) a = none := by
  obtain ⟨t0, hoe⟩ := exo_at hok ea
  have hn : H1 a = none := I1.hok.fresh ha
  obtain ⟨G, g1', g2'⟩ := restrict h2 fun b => decide (b ≠ a)
  have gk : ∀ b, b ≠ a → G.get? b = h2.get? b := fun b hb => g1' b (decide_eq_true hb)
  have ge : G.get? a = none := g2' a (by simp)
  have nha : ∀ {b : Addr} {o : Obj}, hp.get? b = some o → b ≠ a := fun {b o} z => Nat.ne_of_lt (Nat.lt_of_lt_of_le (Heap.lt_size z) ha)
  have up : ∀ {b : Addr}, b ≠ a → H1 b = none → upd H1 a (exo a C none) b = none := fun {b} hb n => by rw [upd_ne hb]; exact n
  have U : Un (frs X.stack) [] H1 (del H2 a) hp G := {
    keep := fun b o z n hf hx => by
      rw [gk b (nha z)]
      exact un.keep b o (k b o z) (up (nha z) n) hf hx
    slot := fun b o z n hf hx => by
      rw [gk b (nha z)]
      exact un.slot b o (k b o z) (up (nha z) n) hf hx
    free := fun b o z n hx => by
      rw [del_ne (nha z)]
      exact un.free b o (k b o z) (up (nha z) n) hx
    there := fun b o z hx => by
      rw [gk b (nha z)]
      exact un.there b o (k b o z) hx
    tups := fun b xs z => by
      rw [del_ne (ne_of_none z hn)]
      exact un.tups b xs (by rw [upd_ne (ne_of_none z hn)]; exact z)
    frzs := fun b o v z => by
      rw [del_ne (ne_of_none z hn)]
      exact un.frzs b o v (by rw [upd_ne (ne_of_none z hn)]; exact z)
    tbls := fun b ps z => by
      rw [del_ne (ne_of_none z hn)]
      exact un.tbls b ps (by rw [upd_ne (ne_of_none z hn)]; exact z) }
  have hok3 : HOk X.prog X.w (del H2 a) G := fun b o z => by
    have hba : b ≠ a := fun e => by
      rw [e, del_same] at z
      cases z
    rw [del_ne hba] at z
    have noa : ∀ {c : Addr}, H2 c = some (.own b) → c ≠ a := fun {c} hc => at_ne ea hc exo_own
    exact (hok b o z).stay (fun c v hc y => by
        have hca : c ≠ a := by
          rcases hc with hc | hc
          · rw [hc]
            exact hba
          · exact noa hc
        rw [gk c hca]
        exact y)
      (fun c hc => by rw [del_ne (noa hc)]; exact hc) (fun c xs hc => by rw [del_ne (at_ne ea hc exo_tup)]; exact hc)
  have J : L2.Inv X pins σ (del H2 a) ⟨G, g2, d2, t2, os2⟩ := I1.call' (ch := []) ho U hok3 hb (fun b z => absurd z (by simp))
  refine ⟨t0, G, J, fun b o z => ?_, ge, hoe, del_same⟩
  by_cases hba : b = a
  · rw [hba, ge] at z
    cases z
  · exact (gk b hba).symm.trans z
open PyProof.Rows PySem.Spec in
theorem pmk_oexN {CX : CXT} {x : Str} {C fI : Addr} {k : Nat} {fd : FuncData} {ps : List Str} {sp : Sp} {p : Pos} (T : OexC X.K C) (iC : PySem.W.findIn X.K (.ref C) "__init__" = some (some (.ref fI))) (tI : PySem.W.typeIn X.K (.ref fI) = some (.type "function"))
    (F1 : FnOk X.prog X.w X.K X.mg X.base CX k fI fd ps sp) (hr : Room (k + 1) X.A) (hb : Binds X.K fd ps []) (hx : Passes CX X (fun _ _ _ => False)) (hg : Gl X x) (hm : X.mg x = some (.ref C))
    (hdb : (x == ("__debug__" : Str)) = false := by decide) :
    PMk X (.Call (.Name x p) [] [] pos) (tMkN C sp) := by
  intro pins s σ H Q I q1
  obtain ⟨nm, q, N, bs, bm, sn, sub, ab, col, dd, k0, k1, k2, k3, k5, hC, hbm⟩ := T.cls
  refine wpAny_Call_Name_kw (ld_glob I hg hm ?_ hdb)
  refine PySem.W.callWith_K0 I.kIn T.kC ?_
  show wpAny _ _ (call (.ref C) []) _ _ _
  obtain ⟨hp, g, dr, tk, os⟩ := s
  have hsz : hp.objs.size ≤ hp.objs.size + 1 := Nat.le_succ _
  have hn : H (hp.objs.size + 1) = none := I.hok.fresh hsz
  have hq := q1 (hp.objs.size + 1) hn
  have kk : ∀ b o, hp.get? b = some o → ((hp.push (PySem.W.kdv_tup [])).push (PySem.HandSPX.excO C hp.objs.size)).get? b = some o := fun b o e => Heap.get?_push_of_some _ (Heap.get?_push_of_some _ e)
  have hget : ((hp.push (PySem.W.kdv_tup [])).push (PySem.HandSPX.excO C hp.objs.size)).get? (hp.objs.size + 1) = some (PySem.HandSPX.excO C hp.objs.size) := by heap_get
  have I2 : L2.Inv X pins σ (upd H (hp.objs.size + 1) (exo (hp.objs.size + 1) C none)) ⟨(hp.push (PySem.W.kdv_tup [])).push (PySem.HandSPX.excO C hp.objs.size), g, dr, tk, os⟩ :=
    I.laid (t' := tk) (a := hp.objs.size + 1) (o := exo (hp.objs.size + 1) C none) (h' := (hp.push (PySem.W.kdv_tup [])).push (PySem.HandSPX.excO C hp.objs.size)) kk hsz (exo_ok hget)
  have r2 : Vals [V.ref (hp.objs.size + 1)] [Value.ref (hp.objs.size + 1)] := .cons rfl .nil
  have hl : ([Value.ref (hp.objs.size + 1)] : List Value).length = ps.length := by
    have e := r2.length
    rw [F1.len _ _ _ _ hq] at e
    exact e.symm
  refine wpAny_call (PySem.HandSPX.call_own F.excBase_ValueError (fun Y => PySem.HandSPX.refsVE_contains Y bm hbm) (I.kIn _ _ hC) (PySem.W.looks_findIn I.kIn iC) (fun self => PySem.W.bind_fn I.kIn self tI) (by simp)
    (codeAny_mono (F1.run _ X.stack _ _ ⟨[Value.ref (hp.objs.size + 1)], []⟩ ([Value.ref (hp.objs.size + 1)] ++ []) _ _ (fun _ _ _ => False) (hr.make C [] []) (I2.env0.make C [] []) (hb _ [Value.ref (hp.objs.size + 1)] I2.kIn hl) (r2.append .nil) hq) fun r s' hq' => ?_))
  cases r with
  | error er => exact hx pins σ _ _ er s' I2 hq'
  | ok fl =>
    cases fl with
    | ret u =>
      obtain ⟨v, H2, os2, bare2, un2, hok2, rv, ev, ea, q2⟩ := hq'
      subst ev
      obtain ⟨h2, g2, d2, t2, os'⟩ := s'
      refine ⟨rv, ?_⟩
      obtain ⟨t0, G, J, kG, ge, hoe, na⟩ := mk_endN (d2 := d2) (t2 := t2) I hsz kk un2 hok2 os2 bare2 ea
      exact ⟨hp.objs.size + 1, _, _, ⟨G, g2, d2, t2, os'⟩, _, .ref C, none, rfl, J, kG, ge, hoe, ⟨rfl, rfl⟩, rfl, rfl, na, rfl, bare2, raises_own T.exC T.tyC, q2⟩
    | next => exact False.elim hq'
    | brk => exact False.elim hq'
    | cont => exact False.elim hq'
end

theorem del_upd {H : Hp} {a : Addr} {o : HO} (h : H a = none) : del (upd H a o) a = H := by
  funext b
  by_cases hb : b = a
  · rw [hb, del_same, h]
  · rw [del_ne hb, upd_ne hb]
/-- isinstance of what the suite holds -/
theorem call_isE2 {X : Cx} {a : Addr} {oe : Obj} {cls : Value} {d : Option Addr} {pn : List (Addr × Obj)} (hz : Zc cls d oe) (hf : ∃ vs, oe.data = .fields vs) :
    CallR (X.suite a ((a, oe) :: pn)) (.builtin "isinstance") (fun xs H Q => ∃ (D C : Addr) (b : Bool), cls = .ref D ∧ d = none ∧ ExcC X.K D ∧ xs = [.ref a, .ref C] ∧ PySem.W.kitOne X.K (.ref D) (.ref C) = some b ∧ Q (.bl b) H) := by
  intro pins s σ H xs us Q I r h
  obtain ⟨D, C, b, rfl, rfl, E, rfl, hk, q⟩ := h
  exact call_isE E hz hf pins s σ H _ us Q I r ⟨.ref C, .ref C, b, rfl, fun u h => h, hk, q⟩
/-- isinstance of what the suite holds, a built-in class -/
theorem call_isET {X : Cx} {a : Addr} {oe : Obj} {cls : Value} {d : Option Addr} {pn : List (Addr × Obj)} (hz : Zc cls d oe) (hf : ∃ vs, oe.data = .fields vs) :
    CallR (X.suite a ((a, oe) :: pn)) (.builtin "isinstance") (fun xs H Q => ∃ (D : Addr) (n : String) (b : Bool), cls = .ref D ∧ d = none ∧ ExcC X.K D ∧ xs = [.ref a, .ty n] ∧ PySem.W.kitOne X.K (.ref D) (.type n) = some b ∧ Q (.bl b) H) := by
  intro pins s σ H xs us Q I r h
  obtain ⟨D, n, b, rfl, rfl, E, rfl, hk, q⟩ := h
  exact call_isE E hz hf pins s σ H _ us Q I r ⟨.ty n, .type n, b, rfl, fun u h => h, hk, q⟩
theorem kit_tyE {K : PySem.W.Frag} {D : Addr} {n : String} {b : Bool} (h1 : PySem.W.kitMeta n = true) (h4 : PySem.W.subIn K (.ref D) (.type n) = some b) : PySem.W.kitOne K (.ref D) (.type n) = some b := by
  unfold PySem.W.kitOne PySem.W.kitCls
  rw [if_neg (by intro h; cases h)]
  dsimp only
  rw [if_pos h1]
  exact h4
structure Xc (K : PySem.W.Frag) (mg : Str → Option Value) (x : Str) : Type where
  C : Addr
  m : mg x = some (.ref C)
  oex : OexC K C
  ex : ExcC K C
structure Bc (K : PySem.W.Frag) (mg : Str → Option Value) (x : Str) : Type where
  C : Addr
  m : mg x = some (.ref C)
  mc : Value
  rd : ClX.CRead K C mc
  cv : PySem.W.findCls K (.ref C) mc "__init__" = some (.val (.builtin "ValueError.__init__"))
structure Xi (K : PySem.W.Frag) (C : Addr) (qual : Str) (st : Stmt) (ps : List Str) : Type where
  f : Addr
  fd : FuncData
  F : Fun K "__init__" qual st f fd
  b : Binds K fd ps []
  iC : PySem.W.findIn K (.ref C) "__init__" = some (some (.ref f))
  tI : PySem.W.typeIn K (.ref f) = some (.type "function")

theorem kit_self {K : PySem.W.Frag} {t : Value} : PySem.W.kitOne K t t = some true := by
  unfold PySem.W.kitOne; rw [if_pos (beq_self_eq_true _)]
theorem kit_sub {K : PySem.W.Frag} {t : Value} {C : Addr} {b : Bool} (ne : (t == Value.ref C) = false) (h2 : PySem.W.isClsIn K C = true) (h3 : PySem.W.typeIn K (.ref C) = some (.type "type")) (h4 : PySem.W.subIn K t (.ref C) = some b) : PySem.W.kitOne K t (.ref C) = some b := by
  unfold PySem.W.kitOne PySem.W.kitCls
  have h2' : (PySem.W.clsIn K C).isSome = true := h2
  rw [if_neg (by rw [ne]; decide)]
  dsimp only
  rw [if_pos (by rw [h2', h3]; rfl)]
  exact h4

/-- C() of a class without any __init__ -/
structure Mk0 (K : PySem.W.Frag) (C : Addr) : Prop where
  makes : PySem.W.makesIn K C = true
  init : PySem.W.findIn K (.ref C) "__init__" = some (some (.builtin "object.__init__"))
  top : PySem.W.mroIn K C (.type "object") = some true
  kp : PySem.W.keepIn K (.ref C) = true
section
variable {X : Cx} {C : Addr} {x : Str} {p pos : Pos}
open PySem.W PySem.Calls PyProof.Rows NwA in
theorem run_make00 {pins : List (Addr × Obj)} {σ : L2.St} {H : Hp} {s : Shared} {Q : VK} (M : Mk0 X.K C) (I : L2.Inv X pins σ H s)
    (h : ∀ x dx, H x = Option.none → H dx = Option.none → dx ≠ x → Q (.ref x) (upd (upd H dx (.own x)) x (.ins C dx []))) : wpAny (model X.prog X.w) X.A (PySem.call (.ref C) []) (EP X pins σ Q) X.xe s := by
  have hq := h (s.heap.objs.size + 1) s.heap.objs.size (I.hok.fresh (Nat.le_succ _)) (I.hok.fresh (Nat.le_refl _)) (Nat.ne_of_lt (Nat.lt_succ_self _))
  have I2 := Inv.made (C := C) I
  refine wpAny_call (make_map0 I.kIn M.makes M.init (fun self => Looks.of_pure (oi_bind _)) ?_)
  have ho : ((s.heap.push PySem.W.emptyDict).push (PySem.W.instObj C s.heap.objs.size)).get? (s.heap.objs.size + 1) = some (PySem.W.instObj C s.heap.objs.size) := by
    have := Heap.get?_push_size (s.heap.push PySem.W.emptyDict) (o := PySem.W.instObj C s.heap.objs.size) rfl
    rwa [Heap.size_push] at this
  have t1 : Looks (model X.prog X.w) ((s.heap.push PySem.W.emptyDict).push (PySem.W.instObj C s.heap.objs.size)) (typeOf (.ref (s.heap.objs.size + 1))) (.ref C) := type_at ho rfl
  have t2 : Looks (model X.prog X.w) ((s.heap.push PySem.W.emptyDict).push (PySem.W.instObj C s.heap.objs.size)) (isInstance (.ref (s.heap.objs.size + 1)) (.type "object")) true := t1.andThen (looks_mroIn I2.kIn M.top)
  refine codeAny_call_builtin oi_plain entry_oi (@check_slot _ _ _ _ "object.__init__" "object" "__init__" (.ref (s.heap.objs.size + 1)) [] [] _ oi_kind oi_split t2 (oi_args_any _ [] []) ?_)
  rw [oi_run]
  exact wpAny_pure ⟨rfl, ⟨V.ref (s.heap.objs.size + 1), _, I2, rfl, hq⟩⟩
def tMake00 (C : Addr) : TE := fun _ H Q => ∀ x dx, H x = none → H dx = none → dx ≠ x → Q (.ref x) (upd (upd H dx (.own x)) x (.ins C dx []))
theorem pe_make00 (M : Mk0 X.K C) (hg : Gl X x) (hm : X.mg x = some (.ref C)) (hdb : (x == ("__debug__" : Str)) = false := by decide) : PE X (.Call (.Name x p) [] [] pos) (tMake00 C) := by
  refine ⟨fun pins s σ H Q I h => ?_⟩
  refine wpAny_Call_Name_kw (ld_glob I hg hm ?_ hdb)
  exact PySem.W.callWith_K0 I.kIn M.kp (run_make00 M I h)
/-- one of two readings -/
theorem pe_alt {e : Expr} {t u : TE} (h1 : PE X e t) (h2 : PE X e u) : PE X e (fun σ H Q => t σ H Q ∨ u σ H Q) :=
  ⟨fun pins s σ H Q I h => h.elim (h1.run pins s σ H Q I) (h2.run pins s σ H Q I)⟩
end

theorem free2 {H : Hp} {dx x : Addr} {o : HO} (hne : dx ≠ x) (hx : H x = none) : upd H dx o x = none := by rw [upd_ne (fun z => hne z.symm)]; exact hx
/-- a method of one of several classes -/
def MAlt (X : Cx) (CX : CXT) (m : Str) (C : Addr) (sp : Sp) : Prop :=
  ∃ f fd ps k, Cls X.K C ∧ Meth X.K C m f ∧ FnOk X.prog X.w X.K X.mg X.base CX k f fd ps sp ∧ Room k X.A ∧ Binds X.K fd ps []
def tMethA (R : Addr → Sp → Prop) (m : Str) (E : XK) (ta : TE) (t : TA) : TE := fun σ H Q => ta σ H fun x H1 => ∃ a dx fs C sp, x = .ref a ∧ R C sp ∧ H1 a = some (.ins C dx fs) ∧ fs.lookup m = none ∧ t σ H1 fun vs H2 => sp (.ref a :: vs) H2 Q E
section
variable {X : Cx} {CX : CXT} {E : XK} {R : Addr → Sp → Prop} {o e : Expr} {es : List Expr} {m : Str} {apos pos : Pos} {ta : TE} {t : TA}
theorem pe_methA {pl : Sem Bool} (he : PE X o ta) (hall : ∀ C sp, R C sp → MAlt X CX m C sp) (hx : Passes CX X E) (ha : PA X (e :: es) t)
    (hst : starEach (e :: es) X.env = (false, eval e X.env) :: starEach es X.env := by rfl) (hpl : (backTo pos (starEach es X.env)).any (·.1) = false := by rfl)
    (ht : eval (.Call (.Attribute o m apos) (e :: es) [] pos) X.env = (do
      let ov ← eval o X.env
      standAt apos.atName
      let (f, first) ← holding [ov] (getMethod ov m pl)
      callWith pos f first (backTo pos (starEach (e :: es) X.env)) (backToKw pos (keywordEach [] X.env))) := by rfl) :
    PE X (.Call (.Attribute o m apos) (e :: es) [] pos) (tMethA R m E ta t) := by
  refine ⟨fun pins s σ H Q I h => ?_⟩
  refine PySem.W.methodCall_KW (pl := pl) (thn (he.run pins s σ H _ I h) fun u s1 ⟨x, H1, I1, rx, a, dx, fs, C, sp, ex, hr, ea, l, q⟩ => ?_) ht
  obtain ⟨f, fd, ps, k, c, hm, F, hr, hb⟩ := hall C sp hr
  subst ex
  obtain rfl : u = Value.ref a := rx
  refine getmeth_ok I1 ea c hm l ?_
  refine PySem.W.callWith_K (first := [.ref a]) (h₀ := X.base) I.ok.mod.kin hm.kp (thn (ha.run pos pins s1 σ H1 _ I1 q) fun us s2 ⟨vs, H2, I2, r, q2⟩ => ⟨I2.kIn, ?_⟩) hst hpl
  exact run_fn (us := .ref a :: us) (vs := .ref a :: vs) F hr hb .nil hx I2 (.cons rfl r) (by rw [List.append_nil]; exact q2)
theorem pe_methA0 {pl : Sem Bool} (he : PE X o ta) (hall : ∀ C sp, R C sp → MAlt X CX m C sp) (hx : Passes CX X E)
    (ht : eval (.Call (.Attribute o m apos) [] [] pos) X.env = (do
      let ov ← eval o X.env
      standAt apos.atName
      let (f, first) ← holding [ov] (getMethod ov m pl)
      callWith pos f first (backTo pos (starEach [] X.env)) (backToKw pos (keywordEach [] X.env))) := by rfl) :
    PE X (.Call (.Attribute o m apos) [] [] pos) (tMethA R m E ta tNil) := by
  refine ⟨fun pins s σ H Q I h => ?_⟩
  refine PySem.W.methodCall_KW (pl := pl) (thn (he.run pins s σ H _ I h) fun u s1 ⟨x, H1, I1, rx, a, dx, fs, C, sp, ex, hr, ea, l, q⟩ => ?_) ht
  obtain ⟨f, fd, ps, k, c, hm, F, hr, hb⟩ := hall C sp hr
  subst ex
  obtain rfl : u = Value.ref a := rx
  refine getmeth_ok I1 ea c hm l ?_
  exact PySem.W.callWith_K0 (first := [.ref a]) I1.kIn hm.kp (run_fn (us := [.ref a]) (vs := [.ref a]) F hr hb .nil hx I1 (.cons rfl .nil) q)
end
theorem mal_one {X : Cx} {CX : CXT} {m : Str} {C0 : Addr} {sp0 : Sp} (h : MAlt X CX m C0 sp0) : ∀ C sp, (C = C0 ∧ sp = sp0) → MAlt X CX m C sp := by
  rintro _ _ ⟨rfl, rfl⟩; exact h
theorem mal_or {X : Cx} {CX : CXT} {m : Str} {R1 R2 : Addr → Sp → Prop} (h1 : ∀ C sp, R1 C sp → MAlt X CX m C sp) (h2 : ∀ C sp, R2 C sp → MAlt X CX m C sp) : ∀ C sp, (R1 C sp ∨ R2 C sp) → MAlt X CX m C sp :=
  fun C sp h => h.elim (h1 C sp) (h2 C sp)
/-- a class of the text whose instances are made -/
structure Kc (K : PySem.W.Frag) (mg : Str → Option Value) (x : Str) : Type where
  C : Addr
  m : mg x = some (.ref C)
  cl : Cls K C
structure Dm (K : PySem.W.Frag) (x qual : Str) (st : Stmt) (ps : List Str) : Type where
  f : Addr
  fd : FuncData
  F : Fun K x qual st f fd
  b : Binds K fd ps []
/-! ### C.f(self, ..), a def of an own class called by the class's name -/
section
variable {X : Cx} {CX : CXT} {k : Nat} {f B : Addr} {fd : FuncData} {ps : List Str} {sp : Sp} {E : XK} {b m : Str} {mc : Value} {p1 p2 pos : Pos} {e : Expr} {es : List Expr} {t : TA}
open PyProof.Rows PySem.Spec in
theorem pe_cdef {pl : Sem Bool} (hg : Gl X b) (hm : X.mg b = some (.ref B)) (rd : ClX.CRead X.K B mc) (cv : PySem.W.findCls X.K (.ref B) mc m = some (.val (.ref f))) (hk : PySem.W.keepIn X.K (.ref f) = true)
    (F : FnOk X.prog X.w X.K X.mg X.base CX k f fd ps sp) (hr : Room k X.A) (hb : Binds X.K fd ps []) (hx : Passes CX X E) (ha : PA X (e :: es) t)
    (hdb : (b == ("__debug__" : Str)) = false := by decide)
    (hc : eval (.Call (.Attribute (.Name b p1) m p2) (e :: es) [] pos) X.env = (do
      let ov ← eval (.Name b p1) X.env
      standAt p2.atName
      let (f, first) ← holding [ov] (getMethod ov m pl)
      callWith pos f first (backTo pos (starEach (e :: es) X.env)) (backToKw pos (keywordEach [] X.env))) := by rfl)
    (he : starEach (e :: es) X.env = (false, eval e X.env) :: starEach es X.env := by rfl) (hpl : (backTo pos (starEach es X.env)).any (·.1) = false := by rfl) :
    PE X (.Call (.Attribute (.Name b p1) m p2) (e :: es) [] pos) (tCall sp [] E t) := by
  refine ⟨fun pins s σ H Q I h => ?_⟩
  refine PySem.W.methodCall_KW (ld_glob I hg hm ?_ hdb) hc
  refine PySem.W.method_cls I.kIn rd.ga (PySem.W.cls_value I.kIn rd.rd cv rfl ?_)
  refine PySem.W.callWith_K (first := []) (h₀ := X.base) I.ok.mod.kin hk (thn (ha.run pos pins _ σ H _ (I.tok _) h) fun us s1 ⟨vs, H1, I1, r, q⟩ => ⟨I1.kIn, ?_⟩) he hpl
  exact run_fn F hr hb .nil hx I1 r q
end
/-- what C.f needs of C -/
structure Cc (K : PySem.W.Frag) (C : Addr) (m : Str) (f : Addr) : Type where
  mc : Value
  rd : ClX.CRead K C mc
  cv : PySem.W.findCls K (.ref C) mc m = some (.val (.ref f))

/-- isinstance of an instance of an own class -/
structure Ic (K : PySem.W.Frag) (C : Addr) : Prop where
  ha : PySem.W.findIn K (.ref C) "__class__" = some (some (.builtin "object.__class__"))
  hn : PySem.W.specialIn K (.builtin "object.__class__") "__get__" = some (some (.builtin "getset_descriptor.__get__"))
  ht : PySem.W.takesIn K (.builtin "object.__class__") = some true
  hm : PySem.W.mroIn K C (.type "object") = some true
theorem tyIns {K : PySem.W.Frag} {H : Hp} {a C dx : Addr} {fs : List (Str × V)} (cl : Cls K C) (i : Ic K C) (e : H a = some (.ins C dx fs)) : TyX K H (.ref a) (.ref C) := .base (.ins e cl i.ha i.hn i.ht i.hm)

end Ow
namespace Ow
open PySem L2
local macro_rules | `(tactic| walk_at "o2") => `(tactic| first | with_reducible assumption | exact Ow.divw64 (by omega) (by omega) | exact Ow.mul0 ⟨by omega, by omega⟩ | exact Ow.mul1 ⟨by omega, by omega⟩ | exact Ow.shl0 (by omega) (by omega) (by omega) | exact ⟨by omega, by omega⟩ | exact ⟨by omega, by omega, by omega⟩ | omega | (simp only [List.length_append, List.length_cons, List.length_nil]; omega) | (subst_vars; omega) | assumption | exact Ow.divW (by omega) (by omega) | exact Ow.mulW ⟨by omega, by omega⟩ ⟨by omega, by omega⟩ | exact Ow.shlW (by omega) (by omega) ⟨by omega, by omega⟩)
local macro_rules | `(tactic| walk_at "ob") => `(tactic| first | assumption | omega | exact ⟨by omega, by omega⟩ | exact ⟨by omega, by omega, by omega⟩ | exact Ow.divw64 (by omega) (by omega) | exact Or.inl ⟨by omega, by omega⟩ | exact Or.inr ⟨by omega, by omega⟩)
inductive F_Kind where
  | Plain
  | Signed
  | Pointed
inductive Tf_Kind where
  | plain (w : Int)
  | signed (w : Int)
  | point (w : Int) (p : Int)
def tl_Kind : Tf_Kind → List V
  | .plain w => [V.str ("plain"), V.int (w), V.int (0)]
  | .signed w => [V.str ("signed"), V.int (w), V.int (0)]
  | .point w p => [V.str ("point"), V.int (w), V.int (p)]
def fl_Kind : Tf_Kind → List (Str × V)
  | .plain w => [(("width" : Str), V.int (w)), (("point" : Str), V.int (0))]
  | .signed w => [(("width" : Str), V.int (w)), (("point" : Str), V.int (0))]
  | .point w p => [(("width" : Str), V.int (w)), (("point" : Str), V.int (p))]
def kn_Kind : Tf_Kind → F_Kind
  | .plain w => .Plain
  | .signed w => .Signed
  | .point w p => .Pointed

/-- the count of a word -/
def cnt (w a : Int) : Int := if a < 2 ^ (w - 1).toNat then a else a - 2 ^ w.toNat
theorem dm (a : Int) {n : Int} (h : 0 < n) : a = a / n * n + a % n ∧ 0 ≤ a % n ∧ a % n < n :=
  ⟨(Int.ediv_mul_add_emod a n).symm, Int.emod_nonneg _ (by omega), Int.emod_lt_of_pos _ h⟩
theorem quo01 {a n : Int} (h : 0 < n) (h0 : 0 ≤ a) (h1 : a < 2 * n) : a / n = 0 ∨ a / n = 1 := by
  have h2 : a / n < 2 := Int.ediv_lt_of_lt_mul h h1
  have h3 : 0 ≤ a / n := Int.ediv_nonneg h0 (by omega)
  omega
theorem gapx {a b n : Int} (h : 0 < n) (a0 : 0 ≤ a) (a1 : a < n) (b0 : 0 ≤ b) (b1 : b < n) : (a - b) % n = if a < b then a - b + n else a - b := by
  split
  · rw [← Int.add_emod_right, Int.emod_eq_of_lt (by omega) (by omega)]
  · rw [Int.emod_eq_of_lt (by omega) (by omega)]
theorem high_lt {a b n : Int} (h : 0 < n) (a0 : 0 ≤ a) (a1 : a < n) (b0 : 0 ≤ b) (b1 : b < n) : 0 ≤ a * b / n ∧ a * b / n < n := by
  have h1 : 0 ≤ a * b := Int.mul_nonneg a0 b0
  refine ⟨Int.ediv_nonneg h1 (by omega), Int.ediv_lt_of_lt_mul h ?_⟩
  calc a * b ≤ a * n := Int.mul_le_mul_of_nonneg_left (by omega) a0
    _ < n * n := Int.mul_lt_mul_of_pos_right a1 h
theorem rgt {a : Int} (a0 : 0 ≤ a) (k : Nat) : 0 ≤ a / 2 ^ k ∧ a / 2 ^ k ≤ a := by
  refine ⟨Int.ediv_nonneg a0 (by have := p2 k; omega), Int.ediv_le_self _ a0⟩
theorem sub_mod (a n : Int) : (a - a % n) % n = 0 := by
  have h := Int.ediv_mul_add_emod a n
  have e : a - a % n = n * (a / n) := by rw [Int.mul_comm]; omega
  rw [e, Int.mul_emod_right]
theorem top_bit {w a : Int} (hw : 1 ≤ w) (h0 : 0 ≤ a) (h1 : a < 2 ^ w.toNat) : (a / 2 ^ (w - 1).toNat = 1 ∧ 2 ^ (w - 1).toNat ≤ a) ∨ (a / 2 ^ (w - 1).toNat = 0 ∧ a < 2 ^ (w - 1).toNat) := by
  have e := pow2_pred hw
  have p := p2 (w - 1).toNat
  by_cases h : a < 2 ^ (w - 1).toNat
  · exact .inr ⟨Int.ediv_eq_zero_of_lt h0 h, h⟩
  · refine .inl ⟨?_, by omega⟩
    have h2 := quo01 p h0 (by omega)
    have h3 : 1 ≤ a / 2 ^ (w - 1).toNat := (Int.le_ediv_iff_mul_le p).mpr (by omega)
    omega
/-- the count of the rest of a number that is a count -/
theorem cnt_rest {w x : Int} (hw : 1 ≤ w) (h0 : -(2 ^ (w - 1).toNat) ≤ x) (h1 : x < 2 ^ (w - 1).toNat) : cnt w (x % 2 ^ w.toNat) = x := by
  have e := pow2_pred hw
  have p := p2 (w - 1).toNat
  unfold cnt
  by_cases h : 0 ≤ x
  · rw [Int.emod_eq_of_lt h (by omega), if_pos h1]
  · rw [← Int.add_emod_right, Int.emod_eq_of_lt (by omega) (by omega), if_neg (by omega)]
    omega
theorem cnt_lt {w a : Int} (hw : 1 ≤ w) (h0 : 0 ≤ a) (h1 : a < 2 ^ w.toNat) : -(2 ^ (w - 1).toNat) ≤ cnt w a ∧ cnt w a < 2 ^ (w - 1).toNat := by
  have e := pow2_pred hw
  unfold cnt
  split <;> omega
theorem down {x n : Int} (h : 0 < n) : 0 ≤ x - x / n * n ∧ x - x / n * n < n := by
  have := dm x h
  omega
theorem slid {w x k : Int} (hw : 1 ≤ w) (h0 : -(2 ^ (w - 1).toNat) ≤ x) (h1 : x < 2 ^ (w - 1).toNat) (n : Nat) :
    0 ≤ x - cnt w (x / 2 ^ n % 2 ^ w.toNat) * 2 ^ n ∧ x - cnt w (x / 2 ^ n % 2 ^ w.toNat) * 2 ^ n < 2 ^ n := by
  have p := p2 n
  have p1 := p2 (w - 1).toNat
  have a1 : -(2 ^ (w - 1).toNat) ≤ x / 2 ^ n := by
    refine (Int.le_ediv_iff_mul_le p).mpr ?_
    have : (2 : Int) ^ (w - 1).toNat * 1 ≤ 2 ^ (w - 1).toNat * 2 ^ n := Int.mul_le_mul_of_nonneg_left (by omega) (by omega)
    have e : -(2 : Int) ^ (w - 1).toNat * 2 ^ n = -(2 ^ (w - 1).toNat * 2 ^ n) := Int.neg_mul _ _
    omega
  have a2 : x / 2 ^ n < 2 ^ (w - 1).toNat := by
    refine Int.ediv_lt_of_lt_mul p ?_
    have : (2 : Int) ^ (w - 1).toNat * 1 ≤ 2 ^ (w - 1).toNat * 2 ^ n := Int.mul_le_mul_of_nonneg_left (by omega) (by omega)
    omega
  rw [cnt_rest hw a1 a2]
  exact down p

def kw : Tf_Kind → Int | .plain w => w | .signed w => w | .point w _ => w
def kp : Tf_Kind → Int | .plain _ => 0 | .signed _ => 0 | .point _ p => p
def kl : Tf_Kind → Int | .plain _ => 0 | .signed w => 0 - 2 ^ (w - 1).toNat | .point w _ => 0 - 2 ^ (w - 1).toNat
def kg : Tf_Kind → Int | .plain w => 2 ^ w.toNat - 1 | .signed w => 2 ^ (w - 1).toNat - 1 | .point w _ => 2 ^ (w - 1).toNat - 1
def KOk : Tf_Kind → Prop | .plain w => 4 ≤ w ∧ w ≤ 32 | .signed w => 4 ≤ w ∧ w ≤ 32 | .point w p => 4 ≤ w ∧ w ≤ 32 ∧ 1 ≤ p ∧ p < w
def knr (kd : Tf_Kind) (n : Int) : Int := if n < kl kd then kl kd else if kg kd < n then kg kd else n
theorem krng {kd : Tf_Kind} (h : KOk kd) : 4 ≤ kw kd ∧ kw kd ≤ 32 ∧ (2 : Int) ^ (kw kd - 1).toNat ≤ 2 ^ 31 ∧ (8 : Int) ≤ 2 ^ (kw kd - 1).toNat ∧ (2 : Int) ^ (kw kd).toNat = 2 * 2 ^ (kw kd - 1).toNat := by
  have h1 : 4 ≤ kw kd ∧ kw kd ≤ 32 := by cases kd <;> simp only [KOk, kw] at * <;> omega
  exact ⟨h1.1, h1.2, pow2_mono (a := (kw kd - 1).toNat) (b := 31) (by omega), pow2_mono (a := 3) (b := (kw kd - 1).toNat) (by omega), pow2_pred (by omega)⟩
theorem bq {b c : Bool} {P : Prop} (h : b = true ↔ P) (g : c = true ↔ P) : b = c := by
  have := h.trans g.symm
  cases b <;> cases c <;> simp_all
def kle1 : Tf_Kind → Int | .plain _ => 0 | .signed w => 0 - 2 ^ (w - 1).toNat | .point w _ => 0 - 2 ^ (w - 1).toNat
def kge1 : Tf_Kind → Int | .plain w => 2 ^ w.toNat - 1 | .signed w => 2 ^ (w - 1).toNat - 1 | .point w _ => 2 ^ (w - 1).toNat - 1
theorem kle {kd : Tf_Kind} (_ : KOk kd) : kl kd = kle1 kd := by cases kd <;> rfl
theorem kge {kd : Tf_Kind} (_ : KOk kd) : kg kd = kge1 kd := by cases kd <;> rfl
theorem nbi {b : Bool} {P : Prop} (h : b = true ↔ P) : (!b) = true ↔ ¬ P := by rw [← h]; cases b <;> simp
theorem nbe {P Q : Prop} [Decidable P] (h : P ↔ Q) : (!decide P) = true ↔ ¬ Q := by rw [← h]; simp
theorem knr_of {kd : Tf_Kind} {n a m l g : Int} (h1 : a ≤ n ∧ a ≤ g ∧ (a = n ∨ a = g)) (h2 : l ≤ m ∧ a ≤ m ∧ (m = l ∨ m = a)) (hl : kl kd = l) (hg : kg kd = g) : m = knr kd n ∨ g < l := by
  unfold knr; rw [hl, hg]
  by_cases z : g < l
  · exact .inr z
  · left; split <;> (try split) <;> omega
theorem rest_of {n q s r m : Int} {k : Nat} (hq : q = n / s) (hm : m = q * s) (hr : r = n - m) (hs : s = 2 ^ k) : n % 2 ^ k = r := by
  have e := Int.ediv_mul_add_emod n s
  rw [← hs, hr, hm, hq]; omega
theorem near_of {kd : Tf_Kind} {n N S l g : Int} {k : Nat} (hs : S = 2 ^ k) (hl : kl kd = l) (hg : kg kd = g) (h0 : 0 ≤ N) (h1 : N < S) (a : n < l → N = l ∨ N = l + S) (b : l ≤ n → g < n → N = g ∨ N = g + S) (c : l ≤ n → n ≤ g → N = n ∨ N = n + S) : knr kd n % 2 ^ k = N := by
  have e : N = knr kd n ∨ N = knr kd n + S := by
    unfold knr; rw [hl, hg]
    by_cases z : n < l
    · rw [if_pos z]; exact a z
    · rw [if_neg z]
      by_cases y : g < n
      · rw [if_pos y]; exact b (by omega) y
      · rw [if_neg y]; exact c (by omega) (by omega)
  rw [← hs]
  rcases e with e | e
  · rw [← e]; exact Int.emod_eq_of_lt h0 h1
  · rw [show knr kd n = N + S * (-1) by omega, Int.add_mul_emod_self_left]; exact Int.emod_eq_of_lt h0 h1

def top (i : Nat) : Stmt := PySem.Challenge.pw_overwise_k02_round_and_stopped.main.body.getD i (.Pass ⟨0, 0, 0, 0⟩)
abbrev s_l_box : Stmt := top 21
theorem sc_l_box : FnScope ["_law_cell_here"] ["_law_cell_here"] (defScope s_l_box) := ⟨rfl, rfl, rfl, by decide +kernel, rfl, by decide +kernel, by decide +kernel⟩
abbrev s_l_take : Stmt := top 22
theorem sc_l_take : FnScope ["_law_box_here", "_law_many", "_law_digit", "_law_number_here"] ["_law_box_here", "_law_many"] (defScope s_l_take) := ⟨rfl, rfl, rfl, by decide +kernel, rfl, by decide +kernel, by decide +kernel⟩
abbrev s_l_spec : Stmt := top 23
theorem sc_l_spec : FnScope ["_law_box_here", "_law_width", "_law_word"] ["_law_box_here"] (defScope s_l_spec) := ⟨rfl, rfl, rfl, by decide +kernel, rfl, by decide +kernel, by decide +kernel⟩
abbrev s_is_whole : Stmt := top 10
theorem sc_is_whole : FnScope ["thing"] ["thing"] (defScope s_is_whole) := ⟨rfl, rfl, rfl, by decide +kernel, rfl, by decide +kernel, by decide +kernel⟩
abbrev s_need_width : Stmt := top 11
theorem sc_need_width : FnScope ["width"] ["width"] (defScope s_need_width) := ⟨rfl, rfl, rfl, by decide +kernel, rfl, by decide +kernel, by decide +kernel⟩
abbrev s_Kind___init__ : Stmt := inClass (top 15) 0
theorem sc_Kind___init__ : FnScope ["self", "width", "point"] ["self", "width", "point"] (defScope s_Kind___init__) := ⟨rfl, rfl, rfl, by decide +kernel, rfl, by decide +kernel, by decide +kernel⟩
abbrev s_Pointed___init__ : Stmt := inClass (top 18) 0
theorem sc_Pointed___init__ : FnScope ["self", "width", "point"] ["self", "width", "point"] (defScope s_Pointed___init__) := ⟨rfl, rfl, rfl, by decide +kernel, rfl, by decide +kernel, by decide +kernel⟩
abbrev s_Plain___init__ : Stmt := inClass (top 16) 0
theorem sc_Plain___init__ : FnScope ["self", "width"] ["self", "width"] (defScope s_Plain___init__) := ⟨rfl, rfl, rfl, by decide +kernel, rfl, by decide +kernel, by decide +kernel⟩
abbrev s_Signed___init__ : Stmt := inClass (top 17) 0
theorem sc_Signed___init__ : FnScope ["self", "width"] ["self", "width"] (defScope s_Signed___init__) := ⟨rfl, rfl, rfl, by decide +kernel, rfl, by decide +kernel, by decide +kernel⟩
abbrev s_l_kind : Stmt := top 24
theorem sc_l_kind : FnScope ["_law_spec_here"] ["_law_spec_here"] (defScope s_l_kind) := ⟨rfl, rfl, rfl, by decide +kernel, rfl, by decide +kernel, by decide +kernel⟩
abbrev s_l_ends : Stmt := top 25
theorem sc_l_ends : FnScope ["_law_spec_here", "_law_half"] ["_law_spec_here"] (defScope s_l_ends) := ⟨rfl, rfl, rfl, by decide +kernel, rfl, by decide +kernel, by decide +kernel⟩
abbrev s_l_cell : Stmt := top 20
theorem sc_l_cell : FnScope ["_law_script", "_law_k"] ["_law_script", "_law_k"] (defScope s_l_cell) := ⟨rfl, rfl, rfl, by decide +kernel, rfl, by decide +kernel, by decide +kernel⟩
abbrev s_Plain_least : Stmt := inClass (top 16) 2
theorem sc_Plain_least : FnScope ["self"] ["self"] (defScope s_Plain_least) := ⟨rfl, rfl, rfl, by decide +kernel, rfl, by decide +kernel, by decide +kernel⟩
abbrev s_Kind_least : Stmt := inClass (top 15) 2
theorem sc_Kind_least : FnScope ["self"] ["self"] (defScope s_Kind_least) := ⟨rfl, rfl, rfl, by decide +kernel, rfl, by decide +kernel, by decide +kernel⟩
abbrev s_Plain_greatest : Stmt := inClass (top 16) 3
theorem sc_Plain_greatest : FnScope ["self"] ["self"] (defScope s_Plain_greatest) := ⟨rfl, rfl, rfl, by decide +kernel, rfl, by decide +kernel, by decide +kernel⟩
abbrev s_Kind_greatest : Stmt := inClass (top 15) 3
theorem sc_Kind_greatest : FnScope ["self"] ["self"] (defScope s_Kind_greatest) := ⟨rfl, rfl, rfl, by decide +kernel, rfl, by decide +kernel, by decide +kernel⟩
abbrev s_Kind_is_count : Stmt := inClass (top 15) 4
theorem sc_Kind_is_count : FnScope ["self", "number"] ["self", "number"] (defScope s_Kind_is_count) := ⟨rfl, rfl, rfl, by decide +kernel, rfl, by decide +kernel, by decide +kernel⟩
abbrev s_Kind_bits_of : Stmt := inClass (top 15) 6
theorem sc_Kind_bits_of : FnScope ["self", "count"] ["self", "count"] (defScope s_Kind_bits_of) := ⟨rfl, rfl, rfl, by decide +kernel, rfl, by decide +kernel, by decide +kernel⟩
abbrev s_Kind_stop_at : Stmt := inClass (top 15) 9
theorem sc_Kind_stop_at : FnScope ["self", "number", "nearest"] ["self", "number"] (defScope s_Kind_stop_at) := ⟨rfl, rfl, rfl, by decide +kernel, rfl, by decide +kernel, by decide +kernel⟩
abbrev s_l_number : Stmt := top 27
theorem sc_l_number : FnScope ["_law_box_here", "_law_spec_here", "_law_way", "_law_ends_here", "_law_number_here", "_law_k"] ["_law_box_here", "_law_spec_here"] (defScope s_l_number) := ⟨rfl, rfl, rfl, by decide +kernel, rfl, by decide +kernel, by decide +kernel⟩
abbrev s_l_whole : Stmt := top 26
theorem sc_l_whole : FnScope ["_law_found"] ["_law_found"] (defScope s_l_whole) := ⟨rfl, rfl, rfl, by decide +kernel, rfl, by decide +kernel, by decide +kernel⟩
abbrev s_l_pair : Stmt := top 28
theorem sc_l_pair : FnScope ["_law_found", "_law_word", "_law_truth"] ["_law_found", "_law_word", "_law_truth"] (defScope s_l_pair) := ⟨rfl, rfl, rfl, by decide +kernel, rfl, by decide +kernel, by decide +kernel⟩
abbrev s_Kind_go_round : Stmt := inClass (top 15) 8
theorem sc_Kind_go_round : FnScope ["self", "number"] ["self", "number"] (defScope s_Kind_go_round) := ⟨rfl, rfl, rfl, by decide +kernel, rfl, by decide +kernel, by decide +kernel⟩
abbrev s_l_right : Stmt := top 29
theorem sc_l_right : FnScope ["_law_kind_here", "_law_spec_here", "_law_number_here", "_law_ends_here", "_law_size", "_law_beyond", "_law_nearest", "_law_rest"] ["_law_kind_here", "_law_spec_here", "_law_number_here"] (defScope s_l_right) := ⟨rfl, rfl, rfl, by decide +kernel, rfl, by decide +kernel, by decide +kernel⟩
abbrev s_law : Stmt := top 30
theorem sc_law : FnScope ["_law_script", "_law_k", "_law_box_here", "_law_spec_here", "_law_kind_here", "_law_ends_here", "_law_numbers", "_law_number_here", "_law_first", "_law_j"] ["_law_script"] (defScope s_law) := ⟨rfl, rfl, rfl, by decide +kernel, rfl, by decide +kernel, by decide +kernel⟩
structure Tx (K : PySem.W.Frag) (mg : Str → Option Value) : Type where
  k_Kind : Ow.Kc K mg "Kind"
  k_Plain : Ow.Kc K mg "Plain"
  k_Pointed : Ow.Kc K mg "Pointed"
  k_Signed : Ow.Kc K mg "Signed"
  ic_Plain : Ow.Ic K k_Plain.C
  ic_Pointed : Ow.Ic K k_Pointed.C
  ic_Signed : Ow.Ic K k_Signed.C
  kic_Plain_Kind : PySem.W.kitOne K (.ref k_Plain.C) (.ref k_Kind.C) = some true
  kic_Pointed_Kind : PySem.W.kitOne K (.ref k_Pointed.C) (.ref k_Kind.C) = some true
  kic_Signed_Kind : PySem.W.kitOne K (.ref k_Signed.C) (.ref k_Kind.C) = some true
  na_Plain_point : NoAttr K k_Plain.C "point"
  na_Plain_width : NoAttr K k_Plain.C "width"
  na_Pointed_point : NoAttr K k_Pointed.C "point"
  na_Pointed_width : NoAttr K k_Pointed.C "width"
  na_Signed_point : NoAttr K k_Signed.C "point"
  na_Signed_width : NoAttr K k_Signed.C "width"
  d_l_box : Ow.Dk K mg "_law_box" "_law_box" s_l_box ["_law_cell_here"]
  d_l_take : Ow.Dk K mg "_law_take" "_law_take" s_l_take ["_law_box_here", "_law_many"]
  d_l_spec : Ow.Dk K mg "_law_spec" "_law_spec" s_l_spec ["_law_box_here"]
  d_is_whole : Ow.Dk K mg "is_whole" "is_whole" s_is_whole ["thing"]
  d_need_width : Ow.Dk K mg "need_width" "need_width" s_need_width ["width"]
  d_Kind___init__ : Ow.Dm K "__init__" "Kind.__init__" s_Kind___init__ ["self", "width", "point"]
  d_Pointed___init__ : Ow.Dm K "__init__" "Pointed.__init__" s_Pointed___init__ ["self", "width", "point"]
  d_Plain___init__ : Ow.Dm K "__init__" "Plain.__init__" s_Plain___init__ ["self", "width"]
  d_Signed___init__ : Ow.Dm K "__init__" "Signed.__init__" s_Signed___init__ ["self", "width"]
  d_l_kind : Ow.Dk K mg "_law_kind" "_law_kind" s_l_kind ["_law_spec_here"]
  d_l_ends : Ow.Dk K mg "_law_ends" "_law_ends" s_l_ends ["_law_spec_here"]
  d_l_cell : Ow.Dk K mg "_law_cell" "_law_cell" s_l_cell ["_law_script", "_law_k"]
  d_Plain_least : Ow.Dm K "least" "Plain.least" s_Plain_least ["self"]
  mt_Plain_least : Meth K k_Plain.C "least" d_Plain_least.f
  d_Kind_least : Ow.Dm K "least" "Kind.least" s_Kind_least ["self"]
  mt_Pointed_least : Meth K k_Pointed.C "least" d_Kind_least.f
  mt_Signed_least : Meth K k_Signed.C "least" d_Kind_least.f
  d_Plain_greatest : Ow.Dm K "greatest" "Plain.greatest" s_Plain_greatest ["self"]
  mt_Plain_greatest : Meth K k_Plain.C "greatest" d_Plain_greatest.f
  d_Kind_greatest : Ow.Dm K "greatest" "Kind.greatest" s_Kind_greatest ["self"]
  mt_Pointed_greatest : Meth K k_Pointed.C "greatest" d_Kind_greatest.f
  mt_Signed_greatest : Meth K k_Signed.C "greatest" d_Kind_greatest.f
  d_Kind_is_count : Ow.Dm K "is_count" "Kind.is_count" s_Kind_is_count ["self", "number"]
  mt_Plain_is_count : Meth K k_Plain.C "is_count" d_Kind_is_count.f
  mt_Pointed_is_count : Meth K k_Pointed.C "is_count" d_Kind_is_count.f
  mt_Signed_is_count : Meth K k_Signed.C "is_count" d_Kind_is_count.f
  d_Kind_bits_of : Ow.Dm K "bits_of" "Kind.bits_of" s_Kind_bits_of ["self", "count"]
  mt_Plain_bits_of : Meth K k_Plain.C "bits_of" d_Kind_bits_of.f
  mt_Pointed_bits_of : Meth K k_Pointed.C "bits_of" d_Kind_bits_of.f
  mt_Signed_bits_of : Meth K k_Signed.C "bits_of" d_Kind_bits_of.f
  d_Kind_stop_at : Ow.Dm K "stop_at" "Kind.stop_at" s_Kind_stop_at ["self", "number"]
  mt_Plain_stop_at : Meth K k_Plain.C "stop_at" d_Kind_stop_at.f
  mt_Pointed_stop_at : Meth K k_Pointed.C "stop_at" d_Kind_stop_at.f
  mt_Signed_stop_at : Meth K k_Signed.C "stop_at" d_Kind_stop_at.f
  d_l_number : Ow.Dk K mg "_law_number" "_law_number" s_l_number ["_law_box_here", "_law_spec_here"]
  d_l_whole : Ow.Dk K mg "_law_whole" "_law_whole" s_l_whole ["_law_found"]
  d_l_pair : Ow.Dk K mg "_law_pair" "_law_pair" s_l_pair ["_law_found", "_law_word", "_law_truth"]
  d_Kind_go_round : Ow.Dm K "go_round" "Kind.go_round" s_Kind_go_round ["self", "number"]
  mt_Plain_go_round : Meth K k_Plain.C "go_round" d_Kind_go_round.f
  mt_Pointed_go_round : Meth K k_Pointed.C "go_round" d_Kind_go_round.f
  mt_Signed_go_round : Meth K k_Signed.C "go_round" d_Kind_go_round.f
  d_l_right : Ow.Dk K mg "_law_right" "_law_right" s_l_right ["_law_kind_here", "_law_spec_here", "_law_number_here"]
  d_law : Ow.Dk K mg "law" "law" s_law ["_law_script"]
  mk_Plain : Mk K k_Plain.C d_Plain___init__.f
  mk_Pointed : Mk K k_Pointed.C d_Pointed___init__.f
  mk_Signed : Mk K k_Signed.C d_Signed___init__.f
  cc_Kind___init__ : Ow.Cc K k_Kind.C "__init__" d_Kind___init__.f
  g_LEAST_WIDTH : ∃ t, mg "LEAST_WIDTH" = some (.int 4 t)
  g_GREATEST_WIDTH : ∃ t, mg "GREATEST_WIDTH" = some (.int 32 t)
  z_max : mg "max" = none
  z_isinstance : mg "isinstance" = none
  z_bool : mg "bool" = none
  z_int : mg "int" = none
  z_len : mg "len" = none
  z_min : mg "min" = none
  z_range : mg "range" = none
  z_tuple : mg "tuple" = none
  z_reversed : mg "reversed" = none
def cls_Kind {K : PySem.W.Frag} {mg : Str → Option Value} (T : Tx K mg) : F_Kind → Addr
  | .Plain => T.k_Plain.C
  | .Signed => T.k_Signed.C
  | .Pointed => T.k_Pointed.C
theorem kcl_Kind {K : PySem.W.Frag} {mg : Str → Option Value} (T : Tx K mg) (w : F_Kind) : Cls K (cls_Kind T w) := by cases w <;> first | exact T.k_Plain.cl | exact T.k_Signed.cl | exact T.k_Pointed.cl
theorem icf_Kind {K : PySem.W.Frag} {mg : Str → Option Value} (T : Tx K mg) (w : F_Kind) : Ow.Ic K (cls_Kind T w) := by cases w <;> first | exact T.ic_Plain | exact T.ic_Signed | exact T.ic_Pointed
theorem kicf_Kind_Kind {K : PySem.W.Frag} {mg : Str → Option Value} (T : Tx K mg) (w : F_Kind) : PySem.W.kitOne K (.ref (cls_Kind T w)) (.ref T.k_Kind.C) = some true := by cases w <;> first | exact T.kic_Plain_Kind | exact T.kic_Signed_Kind | exact T.kic_Pointed_Kind
theorem kna_Kind_point {K : PySem.W.Frag} {mg : Str → Option Value} (T : Tx K mg) (w : F_Kind) : NoAttr K (cls_Kind T w) "point" := by cases w <;> first | exact T.na_Plain_point | exact T.na_Signed_point | exact T.na_Pointed_point
theorem kna_Kind_width {K : PySem.W.Frag} {mg : Str → Option Value} (T : Tx K mg) (w : F_Kind) : NoAttr K (cls_Kind T w) "width" := by cases w <;> first | exact T.na_Plain_width | exact T.na_Signed_width | exact T.na_Pointed_width
def sp_l_box {K : PySem.W.Frag} {mg : Str → Option Value} (T : Tx K mg) : Sp := fun vs H Q E => ∃ (cell : Int), vs = [.int cell] ∧ (∀ (a : Int), ∀ (m : Int), ∀ aq, H aq = none → Q (.ref aq) (upd H aq (.lst [.int (a), .int (m), .int (0)])))
def sp_l_take {K : PySem.W.Frag} {mg : Str → Option Value} (T : Tx K mg) : Sp := fun vs H Q E => ∃ (box : Addr) (many : Int) (a : Int) (m : Int) (c : Int), vs = [.ref box, .int many] ∧ H box = some (.lst [.int (a), .int (m), .int (c)]) ∧ (0 < many) ∧ (many ≤ 18446744073709551616) ∧ (∀ (r : Int), ∀ (a2 : Int), ∀ (c2 : Int), (0 ≤ r) → (r < many) → Q (.int (r)) (upd H box (.lst [.int (a2), .int (m), .int (c2)])))
def sp_l_spec {K : PySem.W.Frag} {mg : Str → Option Value} (T : Tx K mg) : Sp := fun vs H Q E => ∃ (box : Addr) (a : Int) (m : Int) (c : Int), vs = [.ref box] ∧ H box = some (.lst [.int (a), .int (m), .int (c)]) ∧ (∀ (kd : Ow.Tf_Kind), ∀ (a2 : Int), ∀ (c2 : Int), (Ow.KOk kd) → ∀ aq H', Ow.Fm box H H' → H' box = some (.lst [.int (a2), .int (m), .int (c2)]) → H aq = none → H' aq = some (.tup (Ow.tl_Kind kd)) → Q (.ref aq) H')
def sp_is_whole {K : PySem.W.Frag} {mg : Str → Option Value} (T : Tx K mg) : Sp := fun vs H Q E => ∃ (thing : Int), vs = [.int thing] ∧ (Q (.bl (true)) H)
def sp_need_width {K : PySem.W.Frag} {mg : Str → Option Value} (T : Tx K mg) : Sp := fun vs H Q E => ∃ (width : Int), vs = [.int width] ∧ (4 ≤ width) ∧ (width ≤ 32) ∧ (Q (.non) H)
def sp_Kind___init__ {K : PySem.W.Frag} {mg : Str → Option Value} (T : Tx K mg) : Sp := fun vs H Q E => ∃ (self : Addr) (width : Int) (point : Int) (wy : Ow.F_Kind) (dx_self : Addr), vs = [.ref self, .int width, .int point] ∧ H self = some (.ins (Ow.cls_Kind T wy) dx_self []) ∧ (4 ≤ width) ∧ (width ≤ 32) ∧ (∀ H', Ow.Fm self H H' → H' self = some (.ins (Ow.cls_Kind T wy) dx_self [(("width" : Str), V.int (width)), (("point" : Str), V.int (point))]) → Q .non H')
def sp_Pointed___init__ {K : PySem.W.Frag} {mg : Str → Option Value} (T : Tx K mg) : Sp := fun vs H Q E => ∃ (self : Addr) (width : Int) (point : Int) (dx_self : Addr), vs = [.ref self, .int width, .int point] ∧ H self = some (.ins (T.k_Pointed.C) dx_self []) ∧ (4 ≤ width) ∧ (width ≤ 32) ∧ (1 ≤ point) ∧ (point < width) ∧ (∀ H', Ow.Fm self H H' → H' self = some (.ins (T.k_Pointed.C) dx_self [(("width" : Str), V.int (width)), (("point" : Str), V.int (point))]) → Q .non H')
def sp_Plain___init__ {K : PySem.W.Frag} {mg : Str → Option Value} (T : Tx K mg) : Sp := fun vs H Q E => ∃ (self : Addr) (width : Int) (dx_self : Addr), vs = [.ref self, .int width] ∧ H self = some (.ins (T.k_Plain.C) dx_self []) ∧ (4 ≤ width) ∧ (width ≤ 32) ∧ (∀ H', Ow.Fm self H H' → H' self = some (.ins (T.k_Plain.C) dx_self [(("width" : Str), V.int (width)), (("point" : Str), V.int (0))]) → Q .non H')
def sp_Signed___init__ {K : PySem.W.Frag} {mg : Str → Option Value} (T : Tx K mg) : Sp := fun vs H Q E => ∃ (self : Addr) (width : Int) (dx_self : Addr), vs = [.ref self, .int width] ∧ H self = some (.ins (T.k_Signed.C) dx_self []) ∧ (4 ≤ width) ∧ (width ≤ 32) ∧ (∀ H', Ow.Fm self H H' → H' self = some (.ins (T.k_Signed.C) dx_self [(("width" : Str), V.int (width)), (("point" : Str), V.int (0))]) → Q .non H')
def sp_l_kind {K : PySem.W.Frag} {mg : Str → Option Value} (T : Tx K mg) : Sp := fun vs H Q E => ∃ (spec : Addr) (kd : Ow.Tf_Kind), vs = [.ref spec] ∧ H spec = some (.tup (Ow.tl_Kind kd)) ∧ (Ow.KOk kd) ∧ (∀ aq dq H', Same H H' → H aq = none → H' aq = some (.ins (Ow.cls_Kind T (Ow.kn_Kind kd)) dq (Ow.fl_Kind kd)) → Q (.ref aq) H')
def sp_l_ends {K : PySem.W.Frag} {mg : Str → Option Value} (T : Tx K mg) : Sp := fun vs H Q E => ∃ (spec : Addr) (kd : Ow.Tf_Kind), vs = [.ref spec] ∧ H spec = some (.tup (Ow.tl_Kind kd)) ∧ (Ow.KOk kd) ∧ (∀ (lo : Int), ∀ (hi : Int), (lo = Ow.kl kd) → (hi = Ow.kg kd) → ∀ aq H', Same H H' → H aq = none → H' aq = some (.tup [.int (lo), .int (hi)]) → Q (.ref aq) H')
def sp_l_cell {K : PySem.W.Frag} {mg : Str → Option Value} (T : Tx K mg) : Sp := fun vs H Q E => ∃ (script : Addr) (k : Int) (ns : List Int), vs = [.ref script, .int k] ∧ SqL K H script (ns.map V.int) ∧ (0 ≤ k) ∧ (∀ (x : Int), Q (.int (x)) H)
def sp_Plain_least {K : PySem.W.Frag} {mg : Str → Option Value} (T : Tx K mg) : Sp := fun vs H Q E => ∃ (self : Addr) (width : Int) (point : Int) (dx_self : Addr), vs = [.ref self] ∧ H self = some (.ins (T.k_Plain.C) dx_self [(("width" : Str), V.int (width)), (("point" : Str), V.int (point))]) ∧ (4 ≤ width) ∧ (width ≤ 32) ∧ (Q (.int (0)) H)
def sp_Kind_least {K : PySem.W.Frag} {mg : Str → Option Value} (T : Tx K mg) : Sp := fun vs H Q E => ∃ (self : Addr) (width : Int) (point : Int) (wy : Ow.F_Kind) (dx_self : Addr), vs = [.ref self] ∧ H self = some (.ins (Ow.cls_Kind T wy) dx_self [(("width" : Str), V.int (width)), (("point" : Str), V.int (point))]) ∧ (4 ≤ width) ∧ (width ≤ 32) ∧ (Q (.int (0 - 2 ^ (width - 1).toNat)) H)
def sp_Plain_greatest {K : PySem.W.Frag} {mg : Str → Option Value} (T : Tx K mg) : Sp := fun vs H Q E => ∃ (self : Addr) (width : Int) (point : Int) (dx_self : Addr), vs = [.ref self] ∧ H self = some (.ins (T.k_Plain.C) dx_self [(("width" : Str), V.int (width)), (("point" : Str), V.int (point))]) ∧ (4 ≤ width) ∧ (width ≤ 32) ∧ (Q (.int (2 ^ width.toNat - 1)) H)
def sp_Kind_greatest {K : PySem.W.Frag} {mg : Str → Option Value} (T : Tx K mg) : Sp := fun vs H Q E => ∃ (self : Addr) (width : Int) (point : Int) (wy : Ow.F_Kind) (dx_self : Addr), vs = [.ref self] ∧ H self = some (.ins (Ow.cls_Kind T wy) dx_self [(("width" : Str), V.int (width)), (("point" : Str), V.int (point))]) ∧ (4 ≤ width) ∧ (width ≤ 32) ∧ (Q (.int (2 ^ (width - 1).toNat - 1)) H)
def sp_Kind_is_count {K : PySem.W.Frag} {mg : Str → Option Value} (T : Tx K mg) : Sp := fun vs H Q E => ∃ (self : Addr) (number : Int) (kd : Ow.Tf_Kind) (dx_self : Addr), vs = [.ref self, .int number] ∧ H self = some (.ins (Ow.cls_Kind T (Ow.kn_Kind kd)) dx_self (Ow.fl_Kind kd)) ∧ (Ow.KOk kd) ∧ (∀ (b : Bool), (b = true ↔ Ow.kl kd ≤ number ∧ number ≤ Ow.kg kd) → ∀ H', Same H H' → Q (.bl (b)) H')
def sp_Kind_bits_of {K : PySem.W.Frag} {mg : Str → Option Value} (T : Tx K mg) : Sp := fun vs H Q E => ∃ (self : Addr) (count : Int) (kd : Ow.Tf_Kind) (dx_self : Addr), vs = [.ref self, .int count] ∧ H self = some (.ins (Ow.cls_Kind T (Ow.kn_Kind kd)) dx_self (Ow.fl_Kind kd)) ∧ (Ow.KOk kd) ∧ (Ow.kl kd ≤ count) ∧ (count ≤ Ow.kg kd) ∧ (∀ H', Same H H' → Q (.int (count % 2 ^ (Ow.kw kd).toNat)) H')
def sp_Kind_stop_at {K : PySem.W.Frag} {mg : Str → Option Value} (T : Tx K mg) : Sp := fun vs H Q E => ∃ (self : Addr) (number : Int) (kd : Ow.Tf_Kind) (dx_self : Addr), vs = [.ref self, .int number] ∧ H self = some (.ins (Ow.cls_Kind T (Ow.kn_Kind kd)) dx_self (Ow.fl_Kind kd)) ∧ (Ow.KOk kd) ∧ (∀ (b : Bool), (b = true ↔ ¬ (Ow.kl kd ≤ number ∧ number ≤ Ow.kg kd)) → ∀ aq H', Same H H' → H aq = none → H' aq = some (.tup [.int (Ow.knr kd number % 2 ^ (Ow.kw kd).toNat), .bl (b)]) → Q (.ref aq) H')
def sp_l_number {K : PySem.W.Frag} {mg : Str → Option Value} (T : Tx K mg) : Sp := fun vs H Q E => ∃ (box : Addr) (spec : Addr) (a : Int) (m : Int) (c : Int) (kd : Ow.Tf_Kind), vs = [.ref box, .ref spec] ∧ H box = some (.lst [.int (a), .int (m), .int (c)]) ∧ H spec = some (.tup (Ow.tl_Kind kd)) ∧ (Ow.KOk kd) ∧ (∀ (r : Int), ∀ (a2 : Int), ∀ (c2 : Int), ∀ H', Ow.Fm box H H' → H' box = some (.lst [.int (a2), .int (m), .int (c2)]) → Q (.int (r)) H')
def sp_l_whole {K : PySem.W.Frag} {mg : Str → Option Value} (T : Tx K mg) : Sp := fun vs H Q E => ∃ (found : Int), vs = [.int found] ∧ (Q (.bl (true)) H)
def sp_l_pair {K : PySem.W.Frag} {mg : Str → Option Value} (T : Tx K mg) : Sp := fun vs H Q E => ∃ (found : Addr) (word : Int) (truth : Bool) (f : Int) (g : Bool), vs = [.ref found, .int word, .bl truth] ∧ H found = some (.tup [.int (f), .bl (g)]) ∧ (f = word) ∧ (g = truth) ∧ (∀ H', Same H H' → Q (.bl (true)) H')
def sp_Kind_go_round {K : PySem.W.Frag} {mg : Str → Option Value} (T : Tx K mg) : Sp := fun vs H Q E => ∃ (self : Addr) (number : Int) (kd : Ow.Tf_Kind) (dx_self : Addr), vs = [.ref self, .int number] ∧ H self = some (.ins (Ow.cls_Kind T (Ow.kn_Kind kd)) dx_self (Ow.fl_Kind kd)) ∧ (Ow.KOk kd) ∧ (∀ (b : Bool), (b = true ↔ ¬ (Ow.kl kd ≤ number ∧ number ≤ Ow.kg kd)) → ∀ aq H', Same H H' → H aq = none → H' aq = some (.tup [.int (number % 2 ^ (Ow.kw kd).toNat), .bl (b)]) → Q (.ref aq) H')
def sp_l_right {K : PySem.W.Frag} {mg : Str → Option Value} (T : Tx K mg) : Sp := fun vs H Q E => ∃ (kind : Addr) (spec : Addr) (number : Int) (kd : Ow.Tf_Kind) (dx_kind : Addr), vs = [.ref kind, .ref spec, .int number] ∧ H kind = some (.ins (Ow.cls_Kind T (Ow.kn_Kind kd)) dx_kind (Ow.fl_Kind kd)) ∧ H spec = some (.tup (Ow.tl_Kind kd)) ∧ (Ow.KOk kd) ∧ (∀ H', Same H H' → Q (.bl (true)) H')
def sp_law (K : PySem.W.Frag) : Sp := fun vs H Q E => ∃ (script : Addr) (ns : List Int), vs = [.ref script] ∧ SqL K H script (ns.map V.int) ∧ (ns.length ≤ 63) ∧ (∀ H', Same H H' → Q (.bl (true)) H')
section
variable {P : Program} {w : World} {K : PySem.W.Frag} {mg : Str → Option Value} {base : Heap}
theorem ok_l_box (T : Tx K mg) : FnOk P w K mg base CX0 1 T.d_l_box.f T.d_l_box.fd ["_law_cell_here"] (sp_l_box T) := by
  refine T.d_l_box.F.ok sc_l_box (fun vs H Q E h => ?_) (fun cdv A outer s H vs Q E hr h => ?_)
  · obtain ⟨cell, rfl, _⟩ := h
    rfl
  · obtain ⟨cell, rfl, kont⟩ := h
    refine ⟨_, (pss_one (ps_ret (pe_lst (pa_cons (Ow.pe_nmi (pe_callB (call_max2 rfl) (by rfl) T.z_max (by decide +kernel) (pa_cons pe_int (pa_cons (pe_op op_sub (pv 0) (Ow.pe_lit (1000000000000000000) (pe_op op_pow pe_int pe_int))) pa_nil)))) (pa_cons (pe_op Ow.op_modN (pv 0) pe_int) (pa_cons pe_int pa_nil)))))), ?_⟩
    refine ⟨_, rfl, ?_⟩
    refine ⟨_, _, rfl, rfl, ⟨by decide, by decide, by decide⟩, ?_⟩
    refine ⟨by decide, ?_⟩
    refine ⟨_, _, rfl, rfl, ?_⟩
    refine ⟨_, _, rfl, ?_⟩
    refine ⟨_, rfl, fun m h_m => ?_⟩
    have hm_m := Ow.max_ite h_m
    refine ⟨_, rfl, ?_⟩
    refine ⟨_, _, rfl, rfl, (by walk_at "o2"), fun r h_r h0_r h1_r => ?_⟩
    refine ⟨by show 3 ≤ sizeLine; decide, fun p h_p => ?_⟩
    exact kont m r _ h_p
theorem ok_l_take (T : Tx K mg) : FnOk P w K mg base CX0 1 T.d_l_take.f T.d_l_take.fd ["_law_box_here", "_law_many"] (sp_l_take T) := by
  refine T.d_l_take.F.ok sc_l_take (fun vs H Q E h => ?_) (fun cdv A outer s H vs Q E hr h => ?_)
  · obtain ⟨box, many, a, m, c, rfl, _⟩ := h
    rfl
  · obtain ⟨box, many, a, m, c, rfl, c0, c1, c2, kont⟩ := h
    refine ⟨_, (pss_cons (ps_if (pt_cmpR op_gt (pe_ix ix_list (pv 0) pe_int (fun _ _ => rfl)) pe_int (nomark _)) (pss_cons (ps_set (i := 2) sc_l_take.nd rfl (Or.inl rfl) (pe_op Ow.op_modN (pe_ix ix_list (pv 0) pe_int (fun _ _ => rfl)) (pv 1)))
        (pss_cons (ps_asg (pe_op Ow.op_divN (pe_ix ix_list (pv 0) pe_int (fun _ _ => rfl)) (pv 1)) (pg_sub (pv 0) pe_int set_list))
        (pss_one (ps_ret (pv 2))))) pss_nil)
        (pss_cons (ps_asg (Ow.pe_nmi (pe_op op_add (pe_ix ix_list (pv 0) pe_int (fun _ _ => rfl)) pe_int)) (pg_sub (pv 0) pe_int set_list))
        (pss_cons (ps_set (i := 3) sc_l_take.nd rfl (Or.inl rfl) (pe_op Ow.op_modN (pe_op Ow.op_mulN (pe_op op_add (pe_op op_add (pe_ix ix_list (pv 0) pe_int (fun _ _ => rfl)) (pe_op Ow.op_mulN pe_int (pe_ix ix_list (pv 0) pe_int (fun _ _ => rfl)))) pe_int) pe_int) pe_int))
        (pss_cons (ps_set (i := 3) sc_l_take.nd rfl (Or.inl rfl) (pe_op Ow.op_modN (pe_op op_add (pe_op op_add (pe_op Ow.op_mulN (pv 3) (pv 3)) (pe_op Ow.op_mulN pe_int (pe_ix ix_list (pv 0) pe_int (fun _ _ => rfl)))) pe_int) pe_int))
        (pss_one (ps_ret (pe_op Ow.op_modN (pe_op Ow.op_divN (pe_op Ow.op_modN (pe_op Ow.op_mulN (pv 3) (pe_op op_add (pv 3) pe_int)) pe_int) pe_int) (pv 1)))))))), ?_⟩
    refine ⟨_, rfl, ?_⟩
    refine ⟨_, _, _, _, rfl, rfl, (SqL.of c0), (by first | rfl | decide), ?_⟩
    refine ⟨_, _, rfl, rfl, ?_⟩
    refine ⟨_, rfl, ?_⟩
    refine Ow.ifd (fun h1 => ?_) (fun h1 => ?_)
    · refine ⟨_, rfl, ?_⟩
      refine ⟨_, _, _, _, rfl, rfl, (SqL.of c0), (by first | rfl | decide), ?_⟩
      refine ⟨_, rfl, ?_⟩
      refine ⟨_, _, rfl, rfl, (by walk_at "o2"), fun l_digit h_l_digit h0_l_digit h1_l_digit => ?_⟩
      refine ⟨_, rfl, ?_⟩
      refine ⟨_, _, _, _, rfl, rfl, (SqL.of c0), (by first | rfl | decide), ?_⟩
      refine ⟨_, rfl, ?_⟩
      refine ⟨_, _, rfl, rfl, (by walk_at "o2"), fun q h_q => ?_⟩
      refine ⟨_, rfl, ?_⟩
      refine ⟨_, _, _, 0, rfl, rfl, c0, rfl, ?_⟩
      refine ⟨_, rfl, ?_⟩
      exact kont l_digit q c (by walk_at "o2") (by walk_at "o2")
    · refine ⟨_, rfl, ?_⟩
      refine ⟨_, _, _, _, rfl, rfl, (SqL.of c0), (by first | rfl | decide), ?_⟩
      refine ⟨_, _, rfl, rfl, ?_⟩
      refine ⟨_, rfl, fun t h_t => ?_⟩
      refine ⟨_, rfl, ?_⟩
      refine ⟨_, _, _, 2, rfl, rfl, c0, rfl, ?_⟩
      refine ⟨_, rfl, ?_⟩
      refine ⟨_, _, _, _, rfl, rfl, (SqL.of upd_same), (by first | rfl | decide), ?_⟩
      refine ⟨_, rfl, ?_⟩
      refine ⟨_, _, _, _, rfl, rfl, (SqL.of upd_same), (by first | rfl | decide), ?_⟩
      refine ⟨_, _, rfl, rfl, (by walk_at "o2"), fun m_2 h_m_2 => ?_⟩
      refine ⟨_, _, rfl, rfl, ?_⟩
      refine ⟨_, _, rfl, rfl, ?_⟩
      refine ⟨_, _, rfl, rfl, (by walk_at "o2"), fun m_3 h_m_3 => ?_⟩
      refine ⟨_, _, rfl, rfl, (by walk_at "o2"), fun l_number_here h_l_number_here h0_l_number_here h1_l_number_here => ?_⟩
      refine ⟨_, rfl, ?_⟩
      refine ⟨_, rfl, ?_⟩
      refine ⟨_, _, rfl, rfl, (by walk_at "o2"), fun m_4 h_m_4 => ?_⟩
      refine ⟨_, rfl, ?_⟩
      refine ⟨_, _, _, _, rfl, rfl, (SqL.of upd_same), (by first | rfl | decide), ?_⟩
      refine ⟨_, _, rfl, rfl, (by walk_at "o2"), fun m_5 h_m_5 => ?_⟩
      refine ⟨_, _, rfl, rfl, ?_⟩
      refine ⟨_, _, rfl, rfl, ?_⟩
      refine ⟨_, _, rfl, rfl, (by walk_at "o2"), fun l_number_here_2 h_l_number_here_2 h0_l_number_here_2 h1_l_number_here_2 => ?_⟩
      refine ⟨_, rfl, ?_⟩
      refine ⟨_, rfl, ?_⟩
      refine ⟨_, _, rfl, rfl, ?_⟩
      refine ⟨_, _, rfl, rfl, (by walk_at "o2"), fun m_6 h_m_6 => ?_⟩
      refine ⟨_, _, rfl, rfl, (by walk_at "o2"), fun r h_r h0_r h1_r => ?_⟩
      refine ⟨_, _, rfl, rfl, (by walk_at "o2"), fun q_2 h_q_2 => ?_⟩
      refine ⟨_, rfl, ?_⟩
      refine ⟨_, _, rfl, rfl, (by walk_at "o2"), fun r_2 h_r_2 h0_r_2 h1_r_2 => ?_⟩
      exact kont r_2 a t (by walk_at "o2") (by walk_at "o2")
theorem ok_l_spec (T : Tx K mg) : FnOk P w K mg base CX0 2 T.d_l_spec.f T.d_l_spec.fd ["_law_box_here"] (sp_l_spec T) := by
  refine T.d_l_spec.F.ok sc_l_spec (fun vs H Q E h => ?_) (fun cdv A outer s H vs Q E hr h => ?_)
  · obtain ⟨box, a, m, c, rfl, _⟩ := h
    rfl
  · obtain ⟨box, a, m, c, rfl, c0, kont⟩ := h
    refine ⟨_, (pss_cons (ps_set (i := 1) sc_l_spec.nd rfl (Or.inl rfl) (Ow.pe_nmi (pe_op op_add pe_int (pe_call (Ow.ok_l_take T) (hr.mono (by decide : 1 ≤ 1)) (by rfl) T.d_l_take.m T.d_l_take.F.kp T.d_l_take.b .nil pass0 (pa_cons (pv 0) (pa_cons pe_int pa_nil))))))
        (pss_cons (ps_set (i := 2) sc_l_spec.nd rfl (Or.inl rfl) (pe_ix ix_list (pe_lst (pa_cons pe_str (pa_cons pe_str (pa_cons pe_str pa_nil)))) (pe_call (Ow.ok_l_take T) (hr.mono (by decide : 1 ≤ 1)) (by rfl) T.d_l_take.m T.d_l_take.F.kp T.d_l_take.b .nil pass0 (pa_cons (pv 0) (pa_cons pe_int pa_nil))) (fun _ _ => rfl)))
        (pss_cons (ps_if (pt_cmpR op_eq (pv 2) pe_str (nomark _)) (pss_one (ps_ret (pe_tup (pa_cons (pv 2) (pa_cons (pv 1) (pa_cons (pe_op op_add pe_int (pe_call (Ow.ok_l_take T) (hr.mono (by decide : 1 ≤ 1)) (by rfl) T.d_l_take.m T.d_l_take.F.kp T.d_l_take.b .nil pass0 (pa_cons (pv 0) (pa_cons (pe_op op_sub (pv 1) pe_int) pa_nil)))) pa_nil)))))) pss_nil)
        (pss_one (ps_ret (pe_tup (pa_cons (pv 2) (pa_cons (pv 1) (pa_cons pe_int pa_nil))))))))), ?_⟩
    refine ⟨_, rfl, ?_⟩
    refine ⟨_, _, _, _, _, rfl, c0, (by walk_at "o2"), (by walk_at "o2"), fun t a2 c2 h1 h2 => ?_⟩
    refine ⟨_, _, rfl, rfl, ?_⟩
    refine ⟨_, rfl, fun l_width h_l_width => ?_⟩
    have z_l_width : Ow.Sz 6 l_width := by rw [h_l_width]; exact (Ow.Sz.add (Ow.Sz.mono (Ow.Sz.lit (n := 3) (i := 4) (by decide)) (by decide : 3 ≤ 5)) (Ow.Sz.rng (n := 5) h1 h2 (by decide)))
    refine ⟨by show 3 ≤ sizeLine; decide, fun p h_p => ?_⟩
    refine ⟨_, rfl, ?_⟩
    refine ⟨_, _, _, _, _, rfl, (Ow.at_new h_p upd_same), (by walk_at "o2"), (by walk_at "o2"), fun t_2 a2_2 c2_2 h3 h4 => ?_⟩
    refine Ow.ixs3 (SqL.of (Ow.at_mut (Ow.ne_sym (ne_of_none upd_same h_p)) upd_same)) (by walk_at "o2") (fun it h_it => ?_)
    rcases h_it with ⟨hz_it, rfl⟩ | ⟨hz_it, rfl⟩ | ⟨hz_it, rfl⟩
    · refine ⟨_, rfl, ?_⟩
      refine ⟨rfl, ?_⟩
      refine ⟨_, rfl, ?_⟩
      refine Ow.ifeqs (fun h => absurd h (by decide +kernel)) (fun _ => ?_)
      refine ⟨_, rfl, ?_⟩
      refine ⟨_, rfl, ?_⟩
      refine ⟨by show 3 ≤ sizeLine; decide, fun p_2 h_p_2 => ?_⟩
      exact kont (Ow.Tf_Kind.plain l_width) a2_2 c2_2 (by walk_at "o2") _ _ ((((Ow.Fm.refl.mut).same (Ow.same_new h_p)).mut).same (Ow.same_new h_p_2)) (Ow.at_new h_p_2 upd_same) (Ow.Fm.free (((Ow.Fm.refl.mut).same (Ow.same_new h_p)).mut) upd_same h_p_2) upd_same
    · refine ⟨_, rfl, ?_⟩
      refine ⟨rfl, ?_⟩
      refine ⟨_, rfl, ?_⟩
      refine Ow.ifeqs (fun h => absurd h (by decide +kernel)) (fun _ => ?_)
      refine ⟨_, rfl, ?_⟩
      refine ⟨_, rfl, ?_⟩
      refine ⟨by show 3 ≤ sizeLine; decide, fun p_3 h_p_3 => ?_⟩
      exact kont (Ow.Tf_Kind.signed l_width) a2_2 c2_2 (by walk_at "o2") _ _ ((((Ow.Fm.refl.mut).same (Ow.same_new h_p)).mut).same (Ow.same_new h_p_3)) (Ow.at_new h_p_3 upd_same) (Ow.Fm.free (((Ow.Fm.refl.mut).same (Ow.same_new h_p)).mut) upd_same h_p_3) upd_same
    · refine ⟨_, rfl, ?_⟩
      refine ⟨rfl, ?_⟩
      refine ⟨_, rfl, ?_⟩
      refine Ow.ifeqs (fun _ => ?_) (fun h => absurd rfl h)
      refine ⟨_, rfl, ?_⟩
      refine ⟨_, rfl, ?_⟩
      refine ⟨_, rfl, ?_⟩
      refine ⟨_, rfl, ?_⟩
      refine ⟨_, _, rfl, rfl, ?_⟩
      refine ⟨_, _, _, _, _, rfl, upd_same, (by walk_at "o2"), (by walk_at "o2"), fun t_3 a2_3 c2_3 h5 h6 => ?_⟩
      refine ⟨_, _, rfl, rfl, ?_⟩
      refine ⟨by show 3 ≤ sizeLine; decide, fun p_4 h_p_4 => ?_⟩
      exact kont (Ow.Tf_Kind.point l_width (1 + t_3)) a2_3 c2_3 (by walk_at "o2") _ _ (((((Ow.Fm.refl.mut).same (Ow.same_new h_p)).mut).mut).same (Ow.same_new h_p_4)) (Ow.at_new h_p_4 upd_same) (Ow.Fm.free ((((Ow.Fm.refl.mut).same (Ow.same_new h_p)).mut).mut) upd_same h_p_4) upd_same
theorem ok_is_whole (T : Tx K mg) : FnOk P w K mg base CX0 1 T.d_is_whole.f T.d_is_whole.fd ["thing"] (sp_is_whole T) := by
  refine T.d_is_whole.F.ok sc_is_whole (fun vs H Q E h => ?_) (fun cdv A outer s H vs Q E hr h => ?_)
  · obtain ⟨thing, rfl, _⟩ := h
    rfl
  · obtain ⟨thing, rfl, kont⟩ := h
    refine ⟨_, (pss_one (ps_ret (pe_and (pe_callB call_isi (by rfl) T.z_isinstance (by decide +kernel) (pa_cons (pv 0) (pa_cons (pe_bltn (v := .ty "int") (by rfl) T.z_int (by decide +kernel) rfl) pa_nil))) (pe_one (pe_not (pe_callB call_isi (by rfl) T.z_isinstance (by decide +kernel) (pa_cons (pv 0) (pa_cons (pe_bltn (v := .ty "bool") (by rfl) T.z_bool (by decide +kernel) rfl) pa_nil)))))))), ?_⟩
    refine ⟨_, rfl, ?_⟩
    refine ⟨_, _, _, _, true, rfl, .ty _, .base (.int _), kit_ty (by decide +kernel), ?_⟩
    refine ⟨_, rfl, ?_⟩
    refine iteT ?_
    refine ⟨_, rfl, ?_⟩
    refine ⟨_, _, _, _, false, rfl, .ty _, .base (.int _), kit_ty (by decide +kernel), ?_⟩
    refine ⟨_, rfl, ?_⟩
    exact kont
theorem ok_need_width (T : Tx K mg) : FnOk P w K mg base CX0 3 T.d_need_width.f T.d_need_width.fd ["width"] (sp_need_width T) := by
  refine T.d_need_width.F.ok sc_need_width (fun vs H Q E h => ?_) (fun cdv A outer s H vs Q E hr h => ?_)
  · obtain ⟨width, rfl, _⟩ := h
    rfl
  · obtain ⟨width, rfl, c0, c1, kont⟩ := h
    have p32_width := Ow.pow2_le32 (w := width) (by omega)
    have p0_width := Ow.p2 width.toNat
    refine ⟨_, (pss_one (ps_if (PW.pt (pw_or (pt_not (pt_val (pe_call (Ow.ok_is_whole T) (hr.mono (by decide : 1 ≤ 2)) (by rfl) T.d_is_whole.m T.d_is_whole.F.kp T.d_is_whole.b .nil pass0 (pa_cons (pv 0) pa_nil)))) (pw_or1 (pt_not (pt_chain op_le op_le (pe_glob (v := .int (4)) rfl T.g_LEAST_WIDTH.choose_spec ⟨_, rfl⟩) (pv 0) (pe_glob (v := .int (32)) rfl T.g_GREATEST_WIDTH.choose_spec ⟨_, rfl⟩)))))) (pss_one ps_never) pss_nil)), ?_⟩
    refine ⟨_, rfl, ?_⟩
    refine ⟨_, rfl, ?_⟩
    refine ⟨_, rfl, ?_⟩
    refine iteF ?_
    refine ⟨_, rfl, ?_⟩
    refine ⟨_, _, rfl, rfl, ?_⟩
    refine ⟨_, rfl, ?_⟩
    refine Ow.ifd (fun h1 => ?_) (fun h1 => ?_)
    · refine ⟨_, _, rfl, rfl, ?_⟩
      refine ⟨_, rfl, ?_⟩
      refine Ow.ifnd (fun h2 => ?_) (fun h2 => ?_)
      · exact ((by walk_at "o2") : False).elim
      · exact kont
    · refine ⟨_, rfl, ?_⟩
      refine iteT ?_
      exact ((by walk_at "o2") : False).elim
theorem ok_Kind___init__ (T : Tx K mg) : FnOk P w K mg base CX0 4 T.d_Kind___init__.f T.d_Kind___init__.fd ["self", "width", "point"] (sp_Kind___init__ T) := by
  refine T.d_Kind___init__.F.ok sc_Kind___init__ (fun vs H Q E h => ?_) (fun cdv A outer s H vs Q E hr h => ?_)
  · obtain ⟨self, width, point, wy, dx_self, rfl, _⟩ := h
    rfl
  · obtain ⟨self, width, point, wy, dx_self, rfl, c0, c1, c2, kont⟩ := h
    have p32_width := Ow.pow2_le32 (w := width) (by omega)
    have p0_width := Ow.p2 width.toNat
    refine ⟨_, (pss_cons (ps_expr (pe_call (Ow.ok_need_width T) (hr.mono (by decide : 3 ≤ 3)) (by rfl) T.d_need_width.m T.d_need_width.F.kp T.d_need_width.b .nil pass0 (pa_cons (pv 1) pa_nil)))
        (pss_cons (ps_fld (pv 0) (pv 1) rfl)
        (pss_one (ps_fld (pv 0) (pv 2) rfl)))), ?_⟩
    refine ⟨_, rfl, ?_⟩
    refine ⟨_, rfl, (by walk_at "o2"), (by walk_at "o2"), ?_⟩
    refine ⟨_, rfl, ?_⟩
    refine ⟨_, rfl, ?_⟩
    refine ⟨_, _, _, _, rfl, c0, (Ow.kcl_Kind T wy), (Ow.kna_Kind_width T wy), (show 0 < 1000 by decide), ?_⟩
    refine ⟨_, rfl, ?_⟩
    refine ⟨_, rfl, ?_⟩
    refine ⟨_, _, _, _, rfl, upd_same, (Ow.kcl_Kind T wy), (Ow.kna_Kind_point T wy), (show 1 < 1000 by decide), ?_⟩
    exact kont _ ((Ow.Fm.refl.mut).mut) upd_same
theorem ok_Pointed___init__ (T : Tx K mg) : FnOk P w K mg base CX0 5 T.d_Pointed___init__.f T.d_Pointed___init__.fd ["self", "width", "point"] (sp_Pointed___init__ T) := by
  refine T.d_Pointed___init__.F.ok sc_Pointed___init__ (fun vs H Q E h => ?_) (fun cdv A outer s H vs Q E hr h => ?_)
  · obtain ⟨self, width, point, dx_self, rfl, _⟩ := h
    rfl
  · obtain ⟨self, width, point, dx_self, rfl, c0, c1, c2, c3, c4, kont⟩ := h
    have p32_width := Ow.pow2_le32 (w := width) (by omega)
    have p0_width := Ow.p2 width.toNat
    refine ⟨_, (pss_cons (ps_expr (Ow.pe_cdef (by rfl) T.k_Kind.m T.cc_Kind___init__.rd T.cc_Kind___init__.cv T.d_Kind___init__.F.kp (Ow.ok_Kind___init__ T) (hr.mono (by decide : 4 ≤ 4)) T.d_Kind___init__.b pass0 (pa_cons (pv 0) (pa_cons (pv 1) (pa_cons pe_int pa_nil)))))
        (pss_cons (ps_if (PW.pt (pw_or (pt_not (pt_val (pe_call (Ow.ok_is_whole T) (hr.mono (by decide : 1 ≤ 4)) (by rfl) T.d_is_whole.m T.d_is_whole.F.kp T.d_is_whole.b .nil pass0 (pa_cons (pv 2) pa_nil)))) (pw_or1 (pt_not (pt_chain op_le op_lt pe_int (pv 2) (pv 1)))))) (pss_one ps_never) pss_nil)
        (pss_one (ps_fld (pv 0) (pv 2) rfl)))), ?_⟩
    refine ⟨_, rfl, ?_⟩
    refine ⟨_, rfl, ?_⟩
    refine ⟨_, _, _, Ow.F_Kind.Pointed, _, rfl, c0, (by walk_at "o2"), (by walk_at "o2"), fun Hn h1 h2 => ?_⟩
    refine ⟨_, rfl, ?_⟩
    refine ⟨_, rfl, ?_⟩
    refine ⟨_, rfl, ?_⟩
    refine iteF ?_
    refine ⟨_, rfl, ?_⟩
    refine ⟨_, _, rfl, rfl, ?_⟩
    refine ⟨_, rfl, ?_⟩
    refine Ow.ifd (fun h3 => ?_) (fun h3 => ?_)
    · refine ⟨_, rfl, ?_⟩
      refine ⟨_, _, rfl, rfl, ?_⟩
      refine ⟨_, rfl, ?_⟩
      refine Ow.ifnd (fun h4 => ?_) (fun h4 => ?_)
      · exact ((by walk_at "o2") : False).elim
      · refine ⟨_, rfl, ?_⟩
        refine ⟨_, rfl, ?_⟩
        refine ⟨_, _, _, _, rfl, h2, T.k_Pointed.cl, T.na_Pointed_point, (show 2 < 1000 by decide), ?_⟩
        exact kont _ ((Ow.Fm.refl.trans h1).mut) upd_same
    · refine ⟨_, rfl, ?_⟩
      refine iteT ?_
      exact ((by walk_at "o2") : False).elim
theorem ok_Plain___init__ (T : Tx K mg) : FnOk P w K mg base CX0 5 T.d_Plain___init__.f T.d_Plain___init__.fd ["self", "width"] (sp_Plain___init__ T) := by
  refine T.d_Plain___init__.F.ok sc_Plain___init__ (fun vs H Q E h => ?_) (fun cdv A outer s H vs Q E hr h => ?_)
  · obtain ⟨self, width, dx_self, rfl, _⟩ := h
    rfl
  · obtain ⟨self, width, dx_self, rfl, c0, c1, c2, kont⟩ := h
    have p32_width := Ow.pow2_le32 (w := width) (by omega)
    have p0_width := Ow.p2 width.toNat
    refine ⟨_, (pss_one (ps_expr (Ow.pe_cdef (by rfl) T.k_Kind.m T.cc_Kind___init__.rd T.cc_Kind___init__.cv T.d_Kind___init__.F.kp (Ow.ok_Kind___init__ T) (hr.mono (by decide : 4 ≤ 4)) T.d_Kind___init__.b pass0 (pa_cons (pv 0) (pa_cons (pv 1) (pa_cons pe_int pa_nil)))))), ?_⟩
    refine ⟨_, rfl, ?_⟩
    refine ⟨_, rfl, ?_⟩
    refine ⟨_, _, _, Ow.F_Kind.Plain, _, rfl, c0, (by walk_at "o2"), (by walk_at "o2"), fun Hn h1 h2 => ?_⟩
    exact kont _ (Ow.Fm.refl.trans h1) h2
theorem ok_Signed___init__ (T : Tx K mg) : FnOk P w K mg base CX0 5 T.d_Signed___init__.f T.d_Signed___init__.fd ["self", "width"] (sp_Signed___init__ T) := by
  refine T.d_Signed___init__.F.ok sc_Signed___init__ (fun vs H Q E h => ?_) (fun cdv A outer s H vs Q E hr h => ?_)
  · obtain ⟨self, width, dx_self, rfl, _⟩ := h
    rfl
  · obtain ⟨self, width, dx_self, rfl, c0, c1, c2, kont⟩ := h
    have p32_width := Ow.pow2_le32 (w := width) (by omega)
    have p0_width := Ow.p2 width.toNat
    refine ⟨_, (pss_one (ps_expr (Ow.pe_cdef (by rfl) T.k_Kind.m T.cc_Kind___init__.rd T.cc_Kind___init__.cv T.d_Kind___init__.F.kp (Ow.ok_Kind___init__ T) (hr.mono (by decide : 4 ≤ 4)) T.d_Kind___init__.b pass0 (pa_cons (pv 0) (pa_cons (pv 1) (pa_cons pe_int pa_nil)))))), ?_⟩
    refine ⟨_, rfl, ?_⟩
    refine ⟨_, rfl, ?_⟩
    refine ⟨_, _, _, Ow.F_Kind.Signed, _, rfl, c0, (by walk_at "o2"), (by walk_at "o2"), fun Hn h1 h2 => ?_⟩
    exact kont _ (Ow.Fm.refl.trans h1) h2
theorem ok_l_kind (T : Tx K mg) : FnOk P w K mg base CX0 7 T.d_l_kind.f T.d_l_kind.fd ["_law_spec_here"] (sp_l_kind T) := by
  refine T.d_l_kind.F.ok sc_l_kind (fun vs H Q E h => ?_) (fun cdv A outer s H vs Q E hr h => ?_)
  · obtain ⟨spec, kd, rfl, _⟩ := h
    rfl
  · obtain ⟨spec, kd, rfl, c0, c1, kont⟩ := h
    refine ⟨_, (pss_cons (ps_if (pt_cmpR op_eq (pe_ix ix_tup (pv 0) pe_int (fun _ _ => rfl)) pe_str (nomark _)) (pss_one (ps_ret (pe_make T.mk_Plain (Ow.ok_Plain___init__ T) (hr.mono (by decide : 6 ≤ 6)) (by rfl) T.k_Plain.m T.d_Plain___init__.b .nil pass0 (pa_cons (pe_ix ix_tup (pv 0) pe_int (fun _ _ => rfl)) pa_nil)))) pss_nil)
        (pss_cons (ps_if (pt_cmpR op_eq (pe_ix ix_tup (pv 0) pe_int (fun _ _ => rfl)) pe_str (nomark _)) (pss_one (ps_ret (pe_make T.mk_Signed (Ow.ok_Signed___init__ T) (hr.mono (by decide : 6 ≤ 6)) (by rfl) T.k_Signed.m T.d_Signed___init__.b .nil pass0 (pa_cons (pe_ix ix_tup (pv 0) pe_int (fun _ _ => rfl)) pa_nil)))) pss_nil)
        (pss_one (ps_ret (pe_make T.mk_Pointed (Ow.ok_Pointed___init__ T) (hr.mono (by decide : 6 ≤ 6)) (by rfl) T.k_Pointed.m T.d_Pointed___init__.b .nil pass0 (pa_cons (pe_ix ix_tup (pv 0) pe_int (fun _ _ => rfl)) (pa_cons (pe_ix ix_tup (pv 0) pe_int (fun _ _ => rfl)) pa_nil))))))), ?_⟩
    rcases kd with ⟨kd_w⟩ | ⟨kd_w_2⟩ | ⟨kd_w_3, kd_p⟩
    · replace c0 : H spec = some (.tup [.str ("plain"), .int (kd_w), .int (0)]) := c0
      simp only [Ow.KOk] at c1
      refine ⟨_, rfl, ?_⟩
      refine ⟨_, _, _, _, rfl, rfl, (SqT.of c0), (by first | rfl | decide), ?_⟩
      refine ⟨rfl, ?_⟩
      refine ⟨_, rfl, ?_⟩
      refine Ow.ifeqs (fun _ => ?_) (fun h => absurd rfl h)
      refine ⟨_, rfl, ?_⟩
      refine ⟨_, _, _, _, rfl, rfl, (SqT.of c0), (by first | rfl | decide), ?_⟩
      intro o dx h1 h2 h3
      refine ⟨_, _, _, rfl, upd_same, (by walk_at "o2"), (by walk_at "o2"), fun Hn h4 h5 => ?_⟩
      refine ⟨rfl, ?_⟩
      exact kont _ _ _ (Ow.same_frame ((Ow.same_new h2).trans (Ow.same_new (Ow.free2 h3 h1))) h4 h1) h1 h5
    · replace c0 : H spec = some (.tup [.str ("signed"), .int (kd_w_2), .int (0)]) := c0
      simp only [Ow.KOk] at c1
      refine ⟨_, rfl, ?_⟩
      refine ⟨_, _, _, _, rfl, rfl, (SqT.of c0), (by first | rfl | decide), ?_⟩
      refine ⟨rfl, ?_⟩
      refine ⟨_, rfl, ?_⟩
      refine Ow.ifeqs (fun h => absurd h (by decide +kernel)) (fun _ => ?_)
      refine ⟨_, rfl, ?_⟩
      refine ⟨_, _, _, _, rfl, rfl, (SqT.of c0), (by first | rfl | decide), ?_⟩
      refine ⟨rfl, ?_⟩
      refine ⟨_, rfl, ?_⟩
      refine Ow.ifeqs (fun _ => ?_) (fun h => absurd rfl h)
      refine ⟨_, rfl, ?_⟩
      refine ⟨_, _, _, _, rfl, rfl, (SqT.of c0), (by first | rfl | decide), ?_⟩
      intro o_2 dx_2 h6 h7 h8
      refine ⟨_, _, _, rfl, upd_same, (by walk_at "o2"), (by walk_at "o2"), fun Hn_2 h9 h10 => ?_⟩
      refine ⟨rfl, ?_⟩
      exact kont _ _ _ (Ow.same_frame ((Ow.same_new h7).trans (Ow.same_new (Ow.free2 h8 h6))) h9 h6) h6 h10
    · replace c0 : H spec = some (.tup [.str ("point"), .int (kd_w_3), .int (kd_p)]) := c0
      simp only [Ow.KOk] at c1
      refine ⟨_, rfl, ?_⟩
      refine ⟨_, _, _, _, rfl, rfl, (SqT.of c0), (by first | rfl | decide), ?_⟩
      refine ⟨rfl, ?_⟩
      refine ⟨_, rfl, ?_⟩
      refine Ow.ifeqs (fun h => absurd h (by decide +kernel)) (fun _ => ?_)
      refine ⟨_, rfl, ?_⟩
      refine ⟨_, _, _, _, rfl, rfl, (SqT.of c0), (by first | rfl | decide), ?_⟩
      refine ⟨rfl, ?_⟩
      refine ⟨_, rfl, ?_⟩
      refine Ow.ifeqs (fun h => absurd h (by decide +kernel)) (fun _ => ?_)
      refine ⟨_, rfl, ?_⟩
      refine ⟨_, _, _, _, rfl, rfl, (SqT.of c0), (by first | rfl | decide), ?_⟩
      refine ⟨_, rfl, ?_⟩
      refine ⟨_, _, _, _, rfl, rfl, (SqT.of c0), (by first | rfl | decide), ?_⟩
      intro o_3 dx_3 h11 h12 h13
      refine ⟨_, _, _, _, rfl, upd_same, (by walk_at "o2"), (by walk_at "o2"), (by walk_at "o2"), (by walk_at "o2"), fun Hn_3 h14 h15 => ?_⟩
      refine ⟨rfl, ?_⟩
      exact kont _ _ _ (Ow.same_frame ((Ow.same_new h12).trans (Ow.same_new (Ow.free2 h13 h11))) h14 h11) h11 h15
theorem ok_l_ends (T : Tx K mg) : FnOk P w K mg base CX0 1 T.d_l_ends.f T.d_l_ends.fd ["_law_spec_here"] (sp_l_ends T) := by
  refine T.d_l_ends.F.ok sc_l_ends (fun vs H Q E h => ?_) (fun cdv A outer s H vs Q E hr h => ?_)
  · obtain ⟨spec, kd, rfl, _⟩ := h
    rfl
  · obtain ⟨spec, kd, rfl, c0, c1, kont⟩ := h
    refine ⟨_, (pss_cons (ps_set (i := 1) sc_l_ends.nd rfl (Or.inl rfl) (pe_op Ow.op_shl1 pe_int (pe_op op_sub (pe_ix ix_tup (pv 0) pe_int (fun _ _ => rfl)) pe_int)))
        (pss_cons (ps_if (pt_cmpR op_eq (pe_ix ix_tup (pv 0) pe_int (fun _ _ => rfl)) pe_str (nomark _)) (pss_one (ps_ret (pe_tup (pa_cons pe_int (pa_cons (pe_op op_sub (pe_op Ow.op_mulN pe_int (pv 1)) pe_int) pa_nil))))) pss_nil)
        (pss_one (ps_ret (pe_tup (pa_cons (pe_op op_sub pe_int (pv 1)) (pa_cons (pe_op op_sub (pv 1) pe_int) pa_nil))))))), ?_⟩
    rcases kd with ⟨kd_w⟩ | ⟨kd_w_2⟩ | ⟨kd_w_3, kd_p⟩
    · replace c0 : H spec = some (.tup [.str ("plain"), .int (kd_w), .int (0)]) := c0
      have hk := Ow.krng c1
      have hl := Ow.kle c1
      have hg := Ow.kge c1
      simp only [Ow.KOk] at c1
      simp only [Ow.kw] at hk
      simp only [Ow.kle1] at hl
      simp only [Ow.kge1] at hg
      refine ⟨_, rfl, ?_⟩
      refine ⟨_, _, _, _, rfl, rfl, (SqT.of c0), (by first | rfl | decide), ?_⟩
      refine ⟨_, _, rfl, rfl, ?_⟩
      refine ⟨_, rfl, rfl, (by walk_at "o2"), fun l_half h_l_half h0_l_half => ?_⟩
      refine ⟨_, rfl, ?_⟩
      refine ⟨_, _, _, _, rfl, rfl, (SqT.of c0), (by first | rfl | decide), ?_⟩
      refine ⟨rfl, ?_⟩
      refine ⟨_, rfl, ?_⟩
      refine Ow.ifeqs (fun _ => ?_) (fun h => absurd rfl h)
      refine ⟨_, rfl, ?_⟩
      refine ⟨_, _, rfl, rfl, (by walk_at "o2"), fun m h_m => ?_⟩
      refine ⟨_, _, rfl, rfl, ?_⟩
      refine ⟨by show 2 ≤ sizeLine; decide, fun p h_p => ?_⟩
      exact kont 0 (m - 1) (by walk_at "o2") (by walk_at "o2") _ _ (Ow.same_new h_p) h_p upd_same
    · replace c0 : H spec = some (.tup [.str ("signed"), .int (kd_w_2), .int (0)]) := c0
      have hk := Ow.krng c1
      have hl := Ow.kle c1
      have hg := Ow.kge c1
      simp only [Ow.KOk] at c1
      simp only [Ow.kw] at hk
      simp only [Ow.kle1] at hl
      simp only [Ow.kge1] at hg
      refine ⟨_, rfl, ?_⟩
      refine ⟨_, _, _, _, rfl, rfl, (SqT.of c0), (by first | rfl | decide), ?_⟩
      refine ⟨_, _, rfl, rfl, ?_⟩
      refine ⟨_, rfl, rfl, (by walk_at "o2"), fun l_half_2 h_l_half_2 h0_l_half_2 => ?_⟩
      refine ⟨_, rfl, ?_⟩
      refine ⟨_, _, _, _, rfl, rfl, (SqT.of c0), (by first | rfl | decide), ?_⟩
      refine ⟨rfl, ?_⟩
      refine ⟨_, rfl, ?_⟩
      refine Ow.ifeqs (fun h => absurd h (by decide +kernel)) (fun _ => ?_)
      refine ⟨_, rfl, ?_⟩
      refine ⟨_, _, rfl, rfl, ?_⟩
      refine ⟨_, rfl, ?_⟩
      refine ⟨_, _, rfl, rfl, ?_⟩
      refine ⟨by show 2 ≤ sizeLine; decide, fun p_2 h_p_2 => ?_⟩
      exact kont (0 - l_half_2) (l_half_2 - 1) (by walk_at "o2") (by walk_at "o2") _ _ (Ow.same_new h_p_2) h_p_2 upd_same
    · replace c0 : H spec = some (.tup [.str ("point"), .int (kd_w_3), .int (kd_p)]) := c0
      have hk := Ow.krng c1
      have hl := Ow.kle c1
      have hg := Ow.kge c1
      simp only [Ow.KOk] at c1
      simp only [Ow.kw] at hk
      simp only [Ow.kle1] at hl
      simp only [Ow.kge1] at hg
      refine ⟨_, rfl, ?_⟩
      refine ⟨_, _, _, _, rfl, rfl, (SqT.of c0), (by first | rfl | decide), ?_⟩
      refine ⟨_, _, rfl, rfl, ?_⟩
      refine ⟨_, rfl, rfl, (by walk_at "o2"), fun l_half_3 h_l_half_3 h0_l_half_3 => ?_⟩
      refine ⟨_, rfl, ?_⟩
      refine ⟨_, _, _, _, rfl, rfl, (SqT.of c0), (by first | rfl | decide), ?_⟩
      refine ⟨rfl, ?_⟩
      refine ⟨_, rfl, ?_⟩
      refine Ow.ifeqs (fun h => absurd h (by decide +kernel)) (fun _ => ?_)
      refine ⟨_, rfl, ?_⟩
      refine ⟨_, _, rfl, rfl, ?_⟩
      refine ⟨_, rfl, ?_⟩
      refine ⟨_, _, rfl, rfl, ?_⟩
      refine ⟨by show 2 ≤ sizeLine; decide, fun p_3 h_p_3 => ?_⟩
      exact kont (0 - l_half_3) (l_half_3 - 1) (by walk_at "o2") (by walk_at "o2") _ _ (Ow.same_new h_p_3) h_p_3 upd_same
theorem ok_l_cell (T : Tx K mg) : FnOk P w K mg base CX0 1 T.d_l_cell.f T.d_l_cell.fd ["_law_script", "_law_k"] (sp_l_cell T) := by
  refine T.d_l_cell.F.ok sc_l_cell (fun vs H Q E h => ?_) (fun cdv A outer s H vs Q E hr h => ?_)
  · obtain ⟨script, k, ns, rfl, _⟩ := h
    rfl
  · obtain ⟨script, k, ns, rfl, c0, c1, kont⟩ := h
    refine ⟨_, (pss_cons (ps_if (pt_cmpR op_lt (pv 1) (Ow.pe_nmi (pe_callB call_len_seq (by rfl) T.z_len (by decide +kernel) (pa_cons (pv 0) pa_nil))) (nomark _)) (pss_one (ps_ret (pe_ix ix_list (pv 0) (pv 1) (fun _ _ => rfl)))) pss_nil)
        (pss_one (ps_ret (pe_op op_add (pe_op Ow.op_mulN pe_int (pv 1)) pe_int)))), ?_⟩
    refine ⟨_, rfl, ?_⟩
    refine ⟨_, rfl, ?_⟩
    refine ⟨_, _, rfl, .inl c0, ?_⟩
    refine ⟨_, rfl, fun len h_len => ?_⟩
    rw [List.length_map] at h_len
    refine ⟨_, _, rfl, rfl, ?_⟩
    refine ⟨_, rfl, ?_⟩
    refine Ow.ifd (fun h1 => ?_) (fun h1 => ?_)
    · refine ⟨_, rfl, ?_⟩
      refine ⟨_, rfl, ?_⟩
      refine Ow.ixn (xs := ns) (i := k) c0 (by walk_at "o2") (by walk_at "o2") (fun it h_it => ?_)
      exact kont it
    · refine ⟨_, rfl, ?_⟩
      refine ⟨_, _, rfl, rfl, (by walk_at "o2"), fun m h_m => ?_⟩
      refine ⟨_, _, rfl, rfl, ?_⟩
      exact kont (m + 31)
theorem ok_Plain_least (T : Tx K mg) : FnOk P w K mg base CX0 1 T.d_Plain_least.f T.d_Plain_least.fd ["self"] (sp_Plain_least T) := by
  refine T.d_Plain_least.F.ok sc_Plain_least (fun vs H Q E h => ?_) (fun cdv A outer s H vs Q E hr h => ?_)
  · obtain ⟨self, width, point, dx_self, rfl, _⟩ := h
    rfl
  · obtain ⟨self, width, point, dx_self, rfl, c0, c1, c2, kont⟩ := h
    refine ⟨_, (pss_one (ps_ret pe_int)), ?_⟩
    exact kont
theorem ok_Kind_least (T : Tx K mg) : FnOk P w K mg base CX0 1 T.d_Kind_least.f T.d_Kind_least.fd ["self"] (sp_Kind_least T) := by
  refine T.d_Kind_least.F.ok sc_Kind_least (fun vs H Q E h => ?_) (fun cdv A outer s H vs Q E hr h => ?_)
  · obtain ⟨self, width, point, wy, dx_self, rfl, _⟩ := h
    rfl
  · obtain ⟨self, width, point, wy, dx_self, rfl, c0, c1, c2, kont⟩ := h
    have ph := Ow.pow2_mono (a := (width - 1).toNat) (b := 31) (by omega)
    have ph0 := Ow.p2 (width - 1).toNat
    refine ⟨_, (pss_one (ps_ret (pe_op op_sub pe_int (pe_op Ow.op_shl1 pe_int (pe_op op_sub (pe_fld (pv 0) rfl) pe_int))))), ?_⟩
    refine ⟨_, rfl, ?_⟩
    refine ⟨_, _, _, _, V.int (width), rfl, c0, (Ow.kcl_Kind T wy), (Ow.kna_Kind_width T wy), rfl, ?_⟩
    refine ⟨_, _, rfl, rfl, ?_⟩
    refine ⟨_, rfl, rfl, (by walk_at "o2"), fun B h_B h0_B => ?_⟩
    refine ⟨_, _, rfl, rfl, ?_⟩
    refine Ow.eqi (b := 0 - 2 ^ (width - 1).toNat) (by walk_at "o2") ?_
    exact kont
theorem ok_Plain_greatest (T : Tx K mg) : FnOk P w K mg base CX0 1 T.d_Plain_greatest.f T.d_Plain_greatest.fd ["self"] (sp_Plain_greatest T) := by
  refine T.d_Plain_greatest.F.ok sc_Plain_greatest (fun vs H Q E h => ?_) (fun cdv A outer s H vs Q E hr h => ?_)
  · obtain ⟨self, width, point, dx_self, rfl, _⟩ := h
    rfl
  · obtain ⟨self, width, point, dx_self, rfl, c0, c1, c2, kont⟩ := h
    have ph := Ow.pow2_le32 (w := width) (by omega)
    have ph0 := Ow.p2 width.toNat
    refine ⟨_, (pss_one (ps_ret (pe_op op_sub (pe_op Ow.op_shl1 pe_int (pe_fld (pv 0) rfl)) pe_int))), ?_⟩
    refine ⟨_, rfl, ?_⟩
    refine ⟨_, _, _, _, V.int (width), rfl, c0, T.k_Plain.cl, T.na_Plain_width, rfl, ?_⟩
    refine ⟨_, rfl, rfl, (by walk_at "o2"), fun B h_B h0_B => ?_⟩
    refine ⟨_, _, rfl, rfl, ?_⟩
    refine Ow.eqi (b := 2 ^ width.toNat - 1) (by walk_at "o2") ?_
    exact kont
theorem ok_Kind_greatest (T : Tx K mg) : FnOk P w K mg base CX0 1 T.d_Kind_greatest.f T.d_Kind_greatest.fd ["self"] (sp_Kind_greatest T) := by
  refine T.d_Kind_greatest.F.ok sc_Kind_greatest (fun vs H Q E h => ?_) (fun cdv A outer s H vs Q E hr h => ?_)
  · obtain ⟨self, width, point, wy, dx_self, rfl, _⟩ := h
    rfl
  · obtain ⟨self, width, point, wy, dx_self, rfl, c0, c1, c2, kont⟩ := h
    have ph := Ow.pow2_mono (a := (width - 1).toNat) (b := 31) (by omega)
    have ph0 := Ow.p2 (width - 1).toNat
    refine ⟨_, (pss_one (ps_ret (pe_op op_sub (pe_op Ow.op_shl1 pe_int (pe_op op_sub (pe_fld (pv 0) rfl) pe_int)) pe_int))), ?_⟩
    refine ⟨_, rfl, ?_⟩
    refine ⟨_, _, _, _, V.int (width), rfl, c0, (Ow.kcl_Kind T wy), (Ow.kna_Kind_width T wy), rfl, ?_⟩
    refine ⟨_, _, rfl, rfl, ?_⟩
    refine ⟨_, rfl, rfl, (by walk_at "o2"), fun B h_B h0_B => ?_⟩
    refine ⟨_, _, rfl, rfl, ?_⟩
    refine Ow.eqi (b := 2 ^ (width - 1).toNat - 1) (by walk_at "o2") ?_
    exact kont
theorem ok_Kind_is_count (T : Tx K mg) : FnOk P w K mg base CX0 2 T.d_Kind_is_count.f T.d_Kind_is_count.fd ["self", "number"] (sp_Kind_is_count T) := by
  refine T.d_Kind_is_count.F.ok sc_Kind_is_count (fun vs H Q E h => ?_) (fun cdv A outer s H vs Q E hr h => ?_)
  · obtain ⟨self, number, kd, dx_self, rfl, _⟩ := h
    rfl
  · obtain ⟨self, number, kd, dx_self, rfl, c0, c1, kont⟩ := h
    refine ⟨_, (pss_one (ps_ret (pe_chain op_le op_le (Ow.pe_methA0 (R := fun C sp => (C = T.k_Plain.C ∧ sp = sp_Plain_least T) ∨ (C = T.k_Signed.C ∧ sp = sp_Kind_least T) ∨ (C = T.k_Pointed.C ∧ sp = sp_Kind_least T)) (pv 0) (Ow.mal_or (Ow.mal_one ⟨_, _, _, _, T.k_Plain.cl, T.mt_Plain_least, Ow.ok_Plain_least T, hr.mono (by decide : 1 ≤ 1), T.d_Plain_least.b⟩) (Ow.mal_or (Ow.mal_one ⟨_, _, _, _, T.k_Signed.cl, T.mt_Signed_least, Ow.ok_Kind_least T, hr.mono (by decide : 1 ≤ 1), T.d_Kind_least.b⟩) (Ow.mal_one ⟨_, _, _, _, T.k_Pointed.cl, T.mt_Pointed_least, Ow.ok_Kind_least T, hr.mono (by decide : 1 ≤ 1), T.d_Kind_least.b⟩))) pass0) (pv 1) (Ow.pe_methA0 (R := fun C sp => (C = T.k_Plain.C ∧ sp = sp_Plain_greatest T) ∨ (C = T.k_Signed.C ∧ sp = sp_Kind_greatest T) ∨ (C = T.k_Pointed.C ∧ sp = sp_Kind_greatest T)) (pv 0) (Ow.mal_or (Ow.mal_one ⟨_, _, _, _, T.k_Plain.cl, T.mt_Plain_greatest, Ow.ok_Plain_greatest T, hr.mono (by decide : 1 ≤ 1), T.d_Plain_greatest.b⟩) (Ow.mal_or (Ow.mal_one ⟨_, _, _, _, T.k_Signed.cl, T.mt_Signed_greatest, Ow.ok_Kind_greatest T, hr.mono (by decide : 1 ≤ 1), T.d_Kind_greatest.b⟩) (Ow.mal_one ⟨_, _, _, _, T.k_Pointed.cl, T.mt_Pointed_greatest, Ow.ok_Kind_greatest T, hr.mono (by decide : 1 ≤ 1), T.d_Kind_greatest.b⟩))) pass0)))), ?_⟩
    rcases kd with ⟨kd_w⟩ | ⟨kd_w_2⟩ | ⟨kd_w_3, kd_p⟩
    · replace c0 : H self = some (.ins T.k_Plain.C dx_self [(("width" : Str), V.int (kd_w)), (("point" : Str), V.int (0))]) := c0
      have hk := Ow.krng c1
      have hl := Ow.kle c1
      have hg := Ow.kge c1
      simp only [Ow.KOk] at c1
      simp only [Ow.kw] at hk
      simp only [Ow.kle1] at hl
      simp only [Ow.kge1] at hg
      refine ⟨_, rfl, ?_⟩
      refine ⟨_, _, _, _, _, rfl, .inl ⟨rfl, rfl⟩, c0, rfl, ?_⟩
      refine ⟨_, _, _, _, rfl, c0, (by walk_at "o2"), (by walk_at "o2"), ?_⟩
      refine ⟨_, rfl, ?_⟩
      refine ⟨_, _, rfl, rfl, ?_⟩
      refine ⟨_, rfl, ?_⟩
      refine Ow.ifd (fun h1 => ?_) (fun h1 => ?_)
      · refine ⟨_, rfl, ?_⟩
        refine ⟨_, _, _, _, _, rfl, .inl ⟨rfl, rfl⟩, c0, rfl, ?_⟩
        refine ⟨_, _, _, _, rfl, c0, (by walk_at "o2"), (by walk_at "o2"), ?_⟩
        refine ⟨_, _, rfl, rfl, ?_⟩
        exact kont (decide (number ≤ (2 ^ kd_w.toNat - 1))) (by first | assumption | omega | (simp only [Bool.not_eq_true', Bool.false_eq_true, false_iff, true_iff, iff_false, iff_true, decide_eq_true_eq, decide_eq_false_iff_not, V.int.injEq]; omega) | exact Ow.nbi (by assumption) | (subst_vars; exact Ow.nbe (Ow.knr_ne (by omega) hl hg)) | omega) _ (Same.refl _)
      · exact kont false (by first | assumption | omega | (simp only [Bool.not_eq_true', Bool.false_eq_true, false_iff, true_iff, iff_false, iff_true, decide_eq_true_eq, decide_eq_false_iff_not, V.int.injEq]; omega) | exact Ow.nbi (by assumption) | (subst_vars; exact Ow.nbe (Ow.knr_ne (by omega) hl hg)) | omega) _ (Same.refl _)
    · replace c0 : H self = some (.ins T.k_Signed.C dx_self [(("width" : Str), V.int (kd_w_2)), (("point" : Str), V.int (0))]) := c0
      have hk := Ow.krng c1
      have hl := Ow.kle c1
      have hg := Ow.kge c1
      simp only [Ow.KOk] at c1
      simp only [Ow.kw] at hk
      simp only [Ow.kle1] at hl
      simp only [Ow.kge1] at hg
      refine ⟨_, rfl, ?_⟩
      refine ⟨_, _, _, _, _, rfl, .inr (.inl ⟨rfl, rfl⟩), c0, rfl, ?_⟩
      refine ⟨_, _, _, Ow.F_Kind.Signed, _, rfl, c0, (by walk_at "o2"), (by walk_at "o2"), ?_⟩
      refine ⟨_, rfl, ?_⟩
      refine ⟨_, _, rfl, rfl, ?_⟩
      refine ⟨_, rfl, ?_⟩
      refine Ow.ifd (fun h2 => ?_) (fun h2 => ?_)
      · refine ⟨_, rfl, ?_⟩
        refine ⟨_, _, _, _, _, rfl, .inr (.inl ⟨rfl, rfl⟩), c0, rfl, ?_⟩
        refine ⟨_, _, _, Ow.F_Kind.Signed, _, rfl, c0, (by walk_at "o2"), (by walk_at "o2"), ?_⟩
        refine ⟨_, _, rfl, rfl, ?_⟩
        exact kont (decide (number ≤ (2 ^ (kd_w_2 - 1).toNat - 1))) (by first | assumption | omega | (simp only [Bool.not_eq_true', Bool.false_eq_true, false_iff, true_iff, iff_false, iff_true, decide_eq_true_eq, decide_eq_false_iff_not, V.int.injEq]; omega) | exact Ow.nbi (by assumption) | (subst_vars; exact Ow.nbe (Ow.knr_ne (by omega) hl hg)) | omega) _ (Same.refl _)
      · exact kont false (by first | assumption | omega | (simp only [Bool.not_eq_true', Bool.false_eq_true, false_iff, true_iff, iff_false, iff_true, decide_eq_true_eq, decide_eq_false_iff_not, V.int.injEq]; omega) | exact Ow.nbi (by assumption) | (subst_vars; exact Ow.nbe (Ow.knr_ne (by omega) hl hg)) | omega) _ (Same.refl _)
    · replace c0 : H self = some (.ins T.k_Pointed.C dx_self [(("width" : Str), V.int (kd_w_3)), (("point" : Str), V.int (kd_p))]) := c0
      have hk := Ow.krng c1
      have hl := Ow.kle c1
      have hg := Ow.kge c1
      simp only [Ow.KOk] at c1
      simp only [Ow.kw] at hk
      simp only [Ow.kle1] at hl
      simp only [Ow.kge1] at hg
      refine ⟨_, rfl, ?_⟩
      refine ⟨_, _, _, _, _, rfl, .inr (.inr (⟨rfl, rfl⟩)), c0, rfl, ?_⟩
      refine ⟨_, _, _, Ow.F_Kind.Pointed, _, rfl, c0, (by walk_at "o2"), (by walk_at "o2"), ?_⟩
      refine ⟨_, rfl, ?_⟩
      refine ⟨_, _, rfl, rfl, ?_⟩
      refine ⟨_, rfl, ?_⟩
      refine Ow.ifd (fun h3 => ?_) (fun h3 => ?_)
      · refine ⟨_, rfl, ?_⟩
        refine ⟨_, _, _, _, _, rfl, .inr (.inr (⟨rfl, rfl⟩)), c0, rfl, ?_⟩
        refine ⟨_, _, _, Ow.F_Kind.Pointed, _, rfl, c0, (by walk_at "o2"), (by walk_at "o2"), ?_⟩
        refine ⟨_, _, rfl, rfl, ?_⟩
        exact kont (decide (number ≤ (2 ^ (kd_w_3 - 1).toNat - 1))) (by first | assumption | omega | (simp only [Bool.not_eq_true', Bool.false_eq_true, false_iff, true_iff, iff_false, iff_true, decide_eq_true_eq, decide_eq_false_iff_not, V.int.injEq]; omega) | exact Ow.nbi (by assumption) | (subst_vars; exact Ow.nbe (Ow.knr_ne (by omega) hl hg)) | omega) _ (Same.refl _)
      · exact kont false (by first | assumption | omega | (simp only [Bool.not_eq_true', Bool.false_eq_true, false_iff, true_iff, iff_false, iff_true, decide_eq_true_eq, decide_eq_false_iff_not, V.int.injEq]; omega) | exact Ow.nbi (by assumption) | (subst_vars; exact Ow.nbe (Ow.knr_ne (by omega) hl hg)) | omega) _ (Same.refl _)
theorem ok_Kind_bits_of (T : Tx K mg) : FnOk P w K mg base CX0 3 T.d_Kind_bits_of.f T.d_Kind_bits_of.fd ["self", "count"] (sp_Kind_bits_of T) := by
  refine T.d_Kind_bits_of.F.ok sc_Kind_bits_of (fun vs H Q E h => ?_) (fun cdv A outer s H vs Q E hr h => ?_)
  · obtain ⟨self, count, kd, dx_self, rfl, _⟩ := h
    rfl
  · obtain ⟨self, count, kd, dx_self, rfl, c0, c1, c2, c3, kont⟩ := h
    refine ⟨_, (pss_cons (ps_if (PW.pt (pw_or (pt_not (pt_val (pe_call (Ow.ok_is_whole T) (hr.mono (by decide : 1 ≤ 2)) (by rfl) T.d_is_whole.m T.d_is_whole.F.kp T.d_is_whole.b .nil pass0 (pa_cons (pv 1) pa_nil)))) (pw_or1 (pt_not (pt_val (Ow.pe_methA (R := fun C sp => (C = T.k_Plain.C ∧ sp = sp_Kind_is_count T) ∨ (C = T.k_Signed.C ∧ sp = sp_Kind_is_count T) ∨ (C = T.k_Pointed.C ∧ sp = sp_Kind_is_count T)) (pv 0) (Ow.mal_or (Ow.mal_one ⟨_, _, _, _, T.k_Plain.cl, T.mt_Plain_is_count, Ow.ok_Kind_is_count T, hr.mono (by decide : 2 ≤ 2), T.d_Kind_is_count.b⟩) (Ow.mal_or (Ow.mal_one ⟨_, _, _, _, T.k_Signed.cl, T.mt_Signed_is_count, Ow.ok_Kind_is_count T, hr.mono (by decide : 2 ≤ 2), T.d_Kind_is_count.b⟩) (Ow.mal_one ⟨_, _, _, _, T.k_Pointed.cl, T.mt_Pointed_is_count, Ow.ok_Kind_is_count T, hr.mono (by decide : 2 ≤ 2), T.d_Kind_is_count.b⟩))) pass0 (pa_cons (pv 1) pa_nil))))))) (pss_one ps_never) pss_nil)
        (pss_one (ps_ret (pe_op Ow.op_mask (pv 1) (pe_op op_sub (pe_op Ow.op_shl1 pe_int (pe_fld (pv 0) rfl)) pe_int))))), ?_⟩
    rcases kd with ⟨kd_w⟩ | ⟨kd_w_2⟩ | ⟨kd_w_3, kd_p⟩
    · replace c0 : H self = some (.ins T.k_Plain.C dx_self [(("width" : Str), V.int (kd_w)), (("point" : Str), V.int (0))]) := c0
      have hk := Ow.krng c1
      have hl := Ow.kle c1
      have hg := Ow.kge c1
      simp only [Ow.KOk] at c1
      simp only [Ow.kw] at hk
      simp only [Ow.kle1] at hl
      simp only [Ow.kge1] at hg
      refine ⟨_, rfl, ?_⟩
      refine ⟨_, rfl, ?_⟩
      refine ⟨_, rfl, ?_⟩
      refine iteF ?_
      refine ⟨_, rfl, ?_⟩
      refine ⟨_, _, _, _, _, rfl, .inl ⟨rfl, rfl⟩, c0, rfl, ?_⟩
      refine ⟨_, rfl, ?_⟩
      refine ⟨_, _, ((Ow.Tf_Kind.plain kd_w)), _, rfl, c0, (by walk_at "o2"), fun t h1 Hn h2 => ?_⟩
      refine ⟨_, rfl, ?_⟩
      refine Ow.ifnb (fun h3 => ?_) (fun h3 => ?_)
      · exact ((by first | omega | exact absurd ((by assumption : _ = true ↔ Ow.kl _ ≤ count ∧ count ≤ Ow.kg _).mpr ⟨by omega, by omega⟩) (by first | exact Bool.false_ne_true | (rw [h3]; exact Bool.false_ne_true) | exact h3)) : False).elim
      · refine ⟨_, rfl, ?_⟩
        refine ⟨_, rfl, ?_⟩
        refine ⟨_, _, _, _, V.int (kd_w), rfl, (h2 _ _ c0), T.k_Plain.cl, T.na_Plain_width, rfl, ?_⟩
        refine ⟨_, rfl, rfl, (by walk_at "o2"), fun B h_B h0_B => ?_⟩
        refine ⟨_, _, rfl, rfl, ?_⟩
        refine ⟨_, _, kd_w.toNat, rfl, rfl, (by walk_at "o2"), fun r h_r h0_r h1_r => ?_⟩
        refine Ow.eqi (b := count % 2 ^ (Ow.kw ((Ow.Tf_Kind.plain kd_w))).toNat) (by walk_at "o2") ?_
        exact kont _ h2
    · replace c0 : H self = some (.ins T.k_Signed.C dx_self [(("width" : Str), V.int (kd_w_2)), (("point" : Str), V.int (0))]) := c0
      have hk := Ow.krng c1
      have hl := Ow.kle c1
      have hg := Ow.kge c1
      simp only [Ow.KOk] at c1
      simp only [Ow.kw] at hk
      simp only [Ow.kle1] at hl
      simp only [Ow.kge1] at hg
      refine ⟨_, rfl, ?_⟩
      refine ⟨_, rfl, ?_⟩
      refine ⟨_, rfl, ?_⟩
      refine iteF ?_
      refine ⟨_, rfl, ?_⟩
      refine ⟨_, _, _, _, _, rfl, .inr (.inl ⟨rfl, rfl⟩), c0, rfl, ?_⟩
      refine ⟨_, rfl, ?_⟩
      refine ⟨_, _, ((Ow.Tf_Kind.signed kd_w_2)), _, rfl, c0, (by walk_at "o2"), fun t_2 h4 Hn_2 h5 => ?_⟩
      refine ⟨_, rfl, ?_⟩
      refine Ow.ifnb (fun h6 => ?_) (fun h6 => ?_)
      · exact ((by first | omega | exact absurd ((by assumption : _ = true ↔ Ow.kl _ ≤ count ∧ count ≤ Ow.kg _).mpr ⟨by omega, by omega⟩) (by first | exact Bool.false_ne_true | (rw [h6]; exact Bool.false_ne_true) | exact h6)) : False).elim
      · refine ⟨_, rfl, ?_⟩
        refine ⟨_, rfl, ?_⟩
        refine ⟨_, _, _, _, V.int (kd_w_2), rfl, (h5 _ _ c0), T.k_Signed.cl, T.na_Signed_width, rfl, ?_⟩
        refine ⟨_, rfl, rfl, (by walk_at "o2"), fun B_2 h_B_2 h0_B_2 => ?_⟩
        refine ⟨_, _, rfl, rfl, ?_⟩
        refine ⟨_, _, kd_w_2.toNat, rfl, rfl, (by walk_at "o2"), fun r_2 h_r_2 h0_r_2 h1_r_2 => ?_⟩
        refine Ow.eqi (b := count % 2 ^ (Ow.kw ((Ow.Tf_Kind.signed kd_w_2))).toNat) (by walk_at "o2") ?_
        exact kont _ h5
    · replace c0 : H self = some (.ins T.k_Pointed.C dx_self [(("width" : Str), V.int (kd_w_3)), (("point" : Str), V.int (kd_p))]) := c0
      have hk := Ow.krng c1
      have hl := Ow.kle c1
      have hg := Ow.kge c1
      simp only [Ow.KOk] at c1
      simp only [Ow.kw] at hk
      simp only [Ow.kle1] at hl
      simp only [Ow.kge1] at hg
      refine ⟨_, rfl, ?_⟩
      refine ⟨_, rfl, ?_⟩
      refine ⟨_, rfl, ?_⟩
      refine iteF ?_
      refine ⟨_, rfl, ?_⟩
      refine ⟨_, _, _, _, _, rfl, .inr (.inr (⟨rfl, rfl⟩)), c0, rfl, ?_⟩
      refine ⟨_, rfl, ?_⟩
      refine ⟨_, _, ((Ow.Tf_Kind.point kd_w_3 kd_p)), _, rfl, c0, (by walk_at "o2"), fun t_3 h7 Hn_3 h8 => ?_⟩
      refine ⟨_, rfl, ?_⟩
      refine Ow.ifnb (fun h9 => ?_) (fun h9 => ?_)
      · exact ((by first | omega | exact absurd ((by assumption : _ = true ↔ Ow.kl _ ≤ count ∧ count ≤ Ow.kg _).mpr ⟨by omega, by omega⟩) (by first | exact Bool.false_ne_true | (rw [h9]; exact Bool.false_ne_true) | exact h9)) : False).elim
      · refine ⟨_, rfl, ?_⟩
        refine ⟨_, rfl, ?_⟩
        refine ⟨_, _, _, _, V.int (kd_w_3), rfl, (h8 _ _ c0), T.k_Pointed.cl, T.na_Pointed_width, rfl, ?_⟩
        refine ⟨_, rfl, rfl, (by walk_at "o2"), fun B_3 h_B_3 h0_B_3 => ?_⟩
        refine ⟨_, _, rfl, rfl, ?_⟩
        refine ⟨_, _, kd_w_3.toNat, rfl, rfl, (by walk_at "o2"), fun r_3 h_r_3 h0_r_3 h1_r_3 => ?_⟩
        refine Ow.eqi (b := count % 2 ^ (Ow.kw ((Ow.Tf_Kind.point kd_w_3 kd_p))).toNat) (by walk_at "o2") ?_
        exact kont _ h8
theorem ok_Kind_stop_at (T : Tx K mg) : FnOk P w K mg base CX0 4 T.d_Kind_stop_at.f T.d_Kind_stop_at.fd ["self", "number"] (sp_Kind_stop_at T) := by
  refine T.d_Kind_stop_at.F.ok sc_Kind_stop_at (fun vs H Q E h => ?_) (fun cdv A outer s H vs Q E hr h => ?_)
  · obtain ⟨self, number, kd, dx_self, rfl, _⟩ := h
    rfl
  · obtain ⟨self, number, kd, dx_self, rfl, c0, c1, kont⟩ := h
    refine ⟨_, (pss_cons (ps_set (i := 2) sc_Kind_stop_at.nd rfl (Or.inl rfl) (Ow.pe_nmi (pe_callB (call_max2 rfl) (by rfl) T.z_max (by decide +kernel) (pa_cons (Ow.pe_methA0 (R := fun C sp => (C = T.k_Plain.C ∧ sp = sp_Plain_least T) ∨ (C = T.k_Signed.C ∧ sp = sp_Kind_least T) ∨ (C = T.k_Pointed.C ∧ sp = sp_Kind_least T)) (pv 0) (Ow.mal_or (Ow.mal_one ⟨_, _, _, _, T.k_Plain.cl, T.mt_Plain_least, Ow.ok_Plain_least T, hr.mono (by decide : 1 ≤ 3), T.d_Plain_least.b⟩) (Ow.mal_or (Ow.mal_one ⟨_, _, _, _, T.k_Signed.cl, T.mt_Signed_least, Ow.ok_Kind_least T, hr.mono (by decide : 1 ≤ 3), T.d_Kind_least.b⟩) (Ow.mal_one ⟨_, _, _, _, T.k_Pointed.cl, T.mt_Pointed_least, Ow.ok_Kind_least T, hr.mono (by decide : 1 ≤ 3), T.d_Kind_least.b⟩))) pass0) (pa_cons (Ow.pe_nmi (pe_callB (call_min2 rfl) (by rfl) T.z_min (by decide +kernel) (pa_cons (pv 1) (pa_cons (Ow.pe_methA0 (R := fun C sp => (C = T.k_Plain.C ∧ sp = sp_Plain_greatest T) ∨ (C = T.k_Signed.C ∧ sp = sp_Kind_greatest T) ∨ (C = T.k_Pointed.C ∧ sp = sp_Kind_greatest T)) (pv 0) (Ow.mal_or (Ow.mal_one ⟨_, _, _, _, T.k_Plain.cl, T.mt_Plain_greatest, Ow.ok_Plain_greatest T, hr.mono (by decide : 1 ≤ 3), T.d_Plain_greatest.b⟩) (Ow.mal_or (Ow.mal_one ⟨_, _, _, _, T.k_Signed.cl, T.mt_Signed_greatest, Ow.ok_Kind_greatest T, hr.mono (by decide : 1 ≤ 3), T.d_Kind_greatest.b⟩) (Ow.mal_one ⟨_, _, _, _, T.k_Pointed.cl, T.mt_Pointed_greatest, Ow.ok_Kind_greatest T, hr.mono (by decide : 1 ≤ 3), T.d_Kind_greatest.b⟩))) pass0) pa_nil)))) pa_nil)))))
        (pss_one (ps_ret (pe_tup (pa_cons (Ow.pe_methA (R := fun C sp => (C = T.k_Plain.C ∧ sp = sp_Kind_bits_of T) ∨ (C = T.k_Signed.C ∧ sp = sp_Kind_bits_of T) ∨ (C = T.k_Pointed.C ∧ sp = sp_Kind_bits_of T)) (pv 0) (Ow.mal_or (Ow.mal_one ⟨_, _, _, _, T.k_Plain.cl, T.mt_Plain_bits_of, Ow.ok_Kind_bits_of T, hr.mono (by decide : 3 ≤ 3), T.d_Kind_bits_of.b⟩) (Ow.mal_or (Ow.mal_one ⟨_, _, _, _, T.k_Signed.cl, T.mt_Signed_bits_of, Ow.ok_Kind_bits_of T, hr.mono (by decide : 3 ≤ 3), T.d_Kind_bits_of.b⟩) (Ow.mal_one ⟨_, _, _, _, T.k_Pointed.cl, T.mt_Pointed_bits_of, Ow.ok_Kind_bits_of T, hr.mono (by decide : 3 ≤ 3), T.d_Kind_bits_of.b⟩))) pass0 (pa_cons (pv 2) pa_nil)) (pa_cons (pe_cmpR op_ne (pv 2) (pv 1) (nomark _)) pa_nil)))))), ?_⟩
    rcases kd with ⟨kd_w⟩ | ⟨kd_w_2⟩ | ⟨kd_w_3, kd_p⟩
    · replace c0 : H self = some (.ins T.k_Plain.C dx_self [(("width" : Str), V.int (kd_w)), (("point" : Str), V.int (0))]) := c0
      have hk := Ow.krng c1
      have hl := Ow.kle c1
      have hg := Ow.kge c1
      simp only [Ow.KOk] at c1
      simp only [Ow.kw] at hk
      simp only [Ow.kle1] at hl
      simp only [Ow.kge1] at hg
      refine ⟨_, rfl, ?_⟩
      refine ⟨_, _, _, _, _, rfl, .inl ⟨rfl, rfl⟩, c0, rfl, ?_⟩
      refine ⟨_, _, _, _, rfl, c0, (by walk_at "o2"), (by walk_at "o2"), ?_⟩
      refine ⟨_, rfl, ?_⟩
      refine ⟨_, rfl, ?_⟩
      refine ⟨_, _, _, _, _, rfl, .inl ⟨rfl, rfl⟩, c0, rfl, ?_⟩
      refine ⟨_, _, _, _, rfl, c0, (by walk_at "o2"), (by walk_at "o2"), ?_⟩
      refine ⟨_, _, rfl, ?_⟩
      refine ⟨_, rfl, fun m h_m => ?_⟩
      have hm_m := Ow.min_ite h_m
      refine ⟨_, _, rfl, ?_⟩
      refine ⟨_, rfl, fun m_2 h_m_2 => ?_⟩
      have hm_m_2 := Ow.max_ite h_m_2
      have hkr := Ow.knr_of (m := m_2) (n := number) (by assumption) (by assumption) hl hg
      replace hkr := hkr.resolve_right (by omega)
      refine ⟨_, rfl, ?_⟩
      refine ⟨_, _, _, _, _, rfl, .inl ⟨rfl, rfl⟩, c0, rfl, ?_⟩
      refine ⟨_, rfl, ?_⟩
      refine ⟨_, _, ((Ow.Tf_Kind.plain kd_w)), _, rfl, c0, (by walk_at "o2"), (by walk_at "o2"), (by walk_at "o2"), fun Hn h1 => ?_⟩
      refine ⟨_, rfl, ?_⟩
      refine ⟨_, rfl, ?_⟩
      refine ⟨rfl, ?_⟩
      refine ⟨by show 2 ≤ sizeLine; decide, fun p h_p => ?_⟩
      have h2 : m_2 % 2 ^ (Ow.kw ((Ow.Tf_Kind.plain kd_w))).toNat = Ow.knr ((Ow.Tf_Kind.plain kd_w)) number % 2 ^ (Ow.kw ((Ow.Tf_Kind.plain kd_w))).toNat := (by first | rfl | rw [hkr])
      rw [h2]
      exact kont (!decide ((V.int (m_2)) = V.int (number))) (by first | assumption | omega | (simp only [Bool.not_eq_true', Bool.false_eq_true, false_iff, true_iff, iff_false, iff_true, decide_eq_true_eq, decide_eq_false_iff_not, V.int.injEq]; omega) | exact Ow.nbi (by assumption) | (subst_vars; exact Ow.nbe (Ow.knr_ne (by omega) hl hg)) | omega) _ _ (h1.trans (Ow.same_new h_p)) (Same.free h1 h_p) upd_same
    · replace c0 : H self = some (.ins T.k_Signed.C dx_self [(("width" : Str), V.int (kd_w_2)), (("point" : Str), V.int (0))]) := c0
      have hk := Ow.krng c1
      have hl := Ow.kle c1
      have hg := Ow.kge c1
      simp only [Ow.KOk] at c1
      simp only [Ow.kw] at hk
      simp only [Ow.kle1] at hl
      simp only [Ow.kge1] at hg
      refine ⟨_, rfl, ?_⟩
      refine ⟨_, _, _, _, _, rfl, .inr (.inl ⟨rfl, rfl⟩), c0, rfl, ?_⟩
      refine ⟨_, _, _, Ow.F_Kind.Signed, _, rfl, c0, (by walk_at "o2"), (by walk_at "o2"), ?_⟩
      refine ⟨_, rfl, ?_⟩
      refine ⟨_, rfl, ?_⟩
      refine ⟨_, _, _, _, _, rfl, .inr (.inl ⟨rfl, rfl⟩), c0, rfl, ?_⟩
      refine ⟨_, _, _, Ow.F_Kind.Signed, _, rfl, c0, (by walk_at "o2"), (by walk_at "o2"), ?_⟩
      refine ⟨_, _, rfl, ?_⟩
      refine ⟨_, rfl, fun m_3 h_m_3 => ?_⟩
      have hm_m_3 := Ow.min_ite h_m_3
      refine ⟨_, _, rfl, ?_⟩
      refine ⟨_, rfl, fun m_4 h_m_4 => ?_⟩
      have hm_m_4 := Ow.max_ite h_m_4
      have hkr := Ow.knr_of (m := m_4) (n := number) (by assumption) (by assumption) hl hg
      replace hkr := hkr.resolve_right (by omega)
      refine ⟨_, rfl, ?_⟩
      refine ⟨_, _, _, _, _, rfl, .inr (.inl ⟨rfl, rfl⟩), c0, rfl, ?_⟩
      refine ⟨_, rfl, ?_⟩
      refine ⟨_, _, ((Ow.Tf_Kind.signed kd_w_2)), _, rfl, c0, (by walk_at "o2"), (by walk_at "o2"), (by walk_at "o2"), fun Hn_2 h3 => ?_⟩
      refine ⟨_, rfl, ?_⟩
      refine ⟨_, rfl, ?_⟩
      refine ⟨rfl, ?_⟩
      refine ⟨by show 2 ≤ sizeLine; decide, fun p_2 h_p_2 => ?_⟩
      have h4 : m_4 % 2 ^ (Ow.kw ((Ow.Tf_Kind.signed kd_w_2))).toNat = Ow.knr ((Ow.Tf_Kind.signed kd_w_2)) number % 2 ^ (Ow.kw ((Ow.Tf_Kind.signed kd_w_2))).toNat := (by first | rfl | rw [hkr])
      rw [h4]
      exact kont (!decide ((V.int (m_4)) = V.int (number))) (by first | assumption | omega | (simp only [Bool.not_eq_true', Bool.false_eq_true, false_iff, true_iff, iff_false, iff_true, decide_eq_true_eq, decide_eq_false_iff_not, V.int.injEq]; omega) | exact Ow.nbi (by assumption) | (subst_vars; exact Ow.nbe (Ow.knr_ne (by omega) hl hg)) | omega) _ _ (h3.trans (Ow.same_new h_p_2)) (Same.free h3 h_p_2) upd_same
    · replace c0 : H self = some (.ins T.k_Pointed.C dx_self [(("width" : Str), V.int (kd_w_3)), (("point" : Str), V.int (kd_p))]) := c0
      have hk := Ow.krng c1
      have hl := Ow.kle c1
      have hg := Ow.kge c1
      simp only [Ow.KOk] at c1
      simp only [Ow.kw] at hk
      simp only [Ow.kle1] at hl
      simp only [Ow.kge1] at hg
      refine ⟨_, rfl, ?_⟩
      refine ⟨_, _, _, _, _, rfl, .inr (.inr (⟨rfl, rfl⟩)), c0, rfl, ?_⟩
      refine ⟨_, _, _, Ow.F_Kind.Pointed, _, rfl, c0, (by walk_at "o2"), (by walk_at "o2"), ?_⟩
      refine ⟨_, rfl, ?_⟩
      refine ⟨_, rfl, ?_⟩
      refine ⟨_, _, _, _, _, rfl, .inr (.inr (⟨rfl, rfl⟩)), c0, rfl, ?_⟩
      refine ⟨_, _, _, Ow.F_Kind.Pointed, _, rfl, c0, (by walk_at "o2"), (by walk_at "o2"), ?_⟩
      refine ⟨_, _, rfl, ?_⟩
      refine ⟨_, rfl, fun m_5 h_m_5 => ?_⟩
      have hm_m_5 := Ow.min_ite h_m_5
      refine ⟨_, _, rfl, ?_⟩
      refine ⟨_, rfl, fun m_6 h_m_6 => ?_⟩
      have hm_m_6 := Ow.max_ite h_m_6
      have hkr := Ow.knr_of (m := m_6) (n := number) (by assumption) (by assumption) hl hg
      replace hkr := hkr.resolve_right (by omega)
      refine ⟨_, rfl, ?_⟩
      refine ⟨_, _, _, _, _, rfl, .inr (.inr (⟨rfl, rfl⟩)), c0, rfl, ?_⟩
      refine ⟨_, rfl, ?_⟩
      refine ⟨_, _, ((Ow.Tf_Kind.point kd_w_3 kd_p)), _, rfl, c0, (by walk_at "o2"), (by walk_at "o2"), (by walk_at "o2"), fun Hn_3 h5 => ?_⟩
      refine ⟨_, rfl, ?_⟩
      refine ⟨_, rfl, ?_⟩
      refine ⟨rfl, ?_⟩
      refine ⟨by show 2 ≤ sizeLine; decide, fun p_3 h_p_3 => ?_⟩
      have h6 : m_6 % 2 ^ (Ow.kw ((Ow.Tf_Kind.point kd_w_3 kd_p))).toNat = Ow.knr ((Ow.Tf_Kind.point kd_w_3 kd_p)) number % 2 ^ (Ow.kw ((Ow.Tf_Kind.point kd_w_3 kd_p))).toNat := (by first | rfl | rw [hkr])
      rw [h6]
      exact kont (!decide ((V.int (m_6)) = V.int (number))) (by first | assumption | omega | (simp only [Bool.not_eq_true', Bool.false_eq_true, false_iff, true_iff, iff_false, iff_true, decide_eq_true_eq, decide_eq_false_iff_not, V.int.injEq]; omega) | exact Ow.nbi (by assumption) | (subst_vars; exact Ow.nbe (Ow.knr_ne (by omega) hl hg)) | omega) _ _ (h5.trans (Ow.same_new h_p_3)) (Same.free h5 h_p_3) upd_same
theorem ok_l_number (T : Tx K mg) : FnOk P w K mg base CX0 2 T.d_l_number.f T.d_l_number.fd ["_law_box_here", "_law_spec_here"] (sp_l_number T) := by
  refine T.d_l_number.F.ok sc_l_number (fun vs H Q E h => ?_) (fun cdv A outer s H vs Q E hr h => ?_)
  · obtain ⟨box, spec, a, m, c, kd, rfl, _⟩ := h
    rfl
  · obtain ⟨box, spec, a, m, c, kd, rfl, c0, c1, c2, kont⟩ := h
    refine ⟨_, (pss_cons (ps_set (i := 2) sc_l_number.nd rfl (Or.inl rfl) (pe_call (Ow.ok_l_take T) (hr.mono (by decide : 1 ≤ 1)) (by rfl) T.d_l_take.m T.d_l_take.F.kp T.d_l_take.b .nil pass0 (pa_cons (pv 0) (pa_cons pe_int pa_nil))))
        (pss_cons (ps_set (i := 3) sc_l_number.nd rfl (Or.inl rfl) (pe_call (Ow.ok_l_ends T) (hr.mono (by decide : 1 ≤ 1)) (by rfl) T.d_l_ends.m T.d_l_ends.F.kp T.d_l_ends.b .nil pass0 (pa_cons (pv 1) pa_nil)))
        (pss_cons (ps_if (pt_cmpR op_lt (pv 2) pe_int (nomark _)) (pss_one (ps_ret (pe_op op_sub (pe_op op_add (pe_ix ix_tup (pv 3) (pv 2) (fun _ _ => rfl)) (pe_call (Ow.ok_l_take T) (hr.mono (by decide : 1 ≤ 1)) (by rfl) T.d_l_take.m T.d_l_take.F.kp T.d_l_take.b .nil pass0 (pa_cons (pv 0) (pa_cons pe_int pa_nil)))) pe_int))) pss_nil)
        (pss_cons (ps_if (pt_cmpR op_eq (pv 2) pe_int (nomark _)) (pss_one (ps_ret (pe_op op_sub (pe_op op_add (pe_op Ow.op_shlN (pe_op op_sub (pe_call (Ow.ok_l_take T) (hr.mono (by decide : 1 ≤ 1)) (by rfl) T.d_l_take.m T.d_l_take.F.kp T.d_l_take.b .nil pass0 (pa_cons (pv 0) (pa_cons pe_int pa_nil))) pe_int) (pe_ix ix_tup (pv 1) pe_int (fun _ _ => rfl))) (pe_call (Ow.ok_l_take T) (hr.mono (by decide : 1 ≤ 1)) (by rfl) T.d_l_take.m T.d_l_take.F.kp T.d_l_take.b .nil pass0 (pa_cons (pv 0) (pa_cons pe_int pa_nil)))) pe_int))) pss_nil)
        (pss_cons (ps_if (pt_cmpR op_eq (pv 2) pe_int (nomark _)) (pss_one (ps_ret (pe_op op_sub (pe_call (Ow.ok_l_take T) (hr.mono (by decide : 1 ≤ 1)) (by rfl) T.d_l_take.m T.d_l_take.F.kp T.d_l_take.b .nil pass0 (pa_cons (pv 0) (pa_cons pe_int pa_nil))) pe_int))) pss_nil)
        (pss_cons (ps_set (i := 4) sc_l_number.nd rfl (Or.inl rfl) pe_int)
        (pss_cons (ps_for PassesOwn.never rfl (pi_range1 (by rfl) T.z_range (pa_cons (pe_op op_add pe_int (pe_call (Ow.ok_l_take T) (hr.mono (by decide : 1 ≤ 1)) (by rfl) T.d_l_take.m T.d_l_take.F.kp T.d_l_take.b .nil pass0 (pa_cons (pv 0) (pa_cons pe_int pa_nil)))) pa_nil)) (pg_name (i := 5) sc_l_number.nd rfl (Or.inl rfl)) (pss_one (ps_set (i := 4) sc_l_number.nd rfl (Or.inl rfl) (Ow.pe_nmi (pe_op op_add (pe_op Ow.op_mulN (pv 4) pe_int) (pe_call (Ow.ok_l_take T) (hr.mono (by decide : 1 ≤ 1)) (by rfl) T.d_l_take.m T.d_l_take.F.kp T.d_l_take.b .nil pass0 (pa_cons (pv 0) (pa_cons pe_int pa_nil))))))))
        (pss_one (ps_ret (pe_ix ix_list (pe_lst (pa_cons (pv 4) (pa_cons (pe_op op_sub pe_int (pv 4)) pa_nil))) (pe_op op_sub (pv 2) pe_int) (fun _ _ => rfl))))))))))), ?_⟩
    rcases kd with ⟨kd_w⟩ | ⟨kd_w_2⟩ | ⟨kd_w_3, kd_p⟩
    · replace c1 : H spec = some (.tup [.str ("plain"), .int (kd_w), .int (0)]) := c1
      have hk := Ow.krng c2
      have hl := Ow.kle c2
      have hg := Ow.kge c2
      simp only [Ow.KOk] at c2
      simp only [Ow.kw] at hk
      simp only [Ow.kle1] at hl
      simp only [Ow.kge1] at hg
      refine ⟨_, rfl, ?_⟩
      refine ⟨_, _, _, _, _, rfl, c0, (by walk_at "o2"), (by walk_at "o2"), fun l_way a2 c2 h1 h2 => ?_⟩
      refine ⟨_, rfl, ?_⟩
      refine ⟨_, ((Ow.Tf_Kind.plain kd_w)), rfl, (Ow.at_mutT c0 c1), (by walk_at "o2"), fun lo hi h3 h4 p Hn h5 h6 h7 => ?_⟩
      refine ⟨_, rfl, ?_⟩
      refine ⟨_, _, rfl, rfl, ?_⟩
      refine ⟨_, rfl, ?_⟩
      refine Ow.ifd (fun h8 => ?_) (fun h8 => ?_)
      · refine ⟨_, rfl, ?_⟩
        refine ⟨_, rfl, ?_⟩
        refine Ow.ixt2 (SqT.of h7) (by walk_at "o2") (fun it h_it => ?_)
        refine ⟨_, rfl, ?_⟩
        refine ⟨_, _, _, _, _, rfl, (h5 _ _ upd_same), (by walk_at "o2"), (by walk_at "o2"), fun t a2_2 c2_2 h9 h10 => ?_⟩
        refine ⟨_, _, rfl, rfl, ?_⟩
        refine ⟨_, _, rfl, rfl, ?_⟩
        exact kont ((it + t) - 2) a2_2 c2_2 _ (((Ow.Fm.refl.mut).same h5).mut) upd_same
      · refine ⟨_, rfl, ?_⟩
        refine ⟨rfl, ?_⟩
        refine ⟨_, rfl, ?_⟩
        refine Ow.ifeqi (fun h11 => ?_) (fun h11 => ?_)
        · refine ⟨_, rfl, ?_⟩
          refine ⟨_, _, _, _, _, rfl, (h5 _ _ upd_same), (by walk_at "o2"), (by walk_at "o2"), fun t_2 a2_3 c2_3 h12 h13 => ?_⟩
          refine ⟨_, _, rfl, rfl, ?_⟩
          refine ⟨_, rfl, ?_⟩
          refine ⟨_, _, _, _, rfl, rfl, (SqT.of (Ow.at_mutT (h5 _ _ upd_same) (h5 _ _ (Ow.at_mutT c0 c1)))), (by first | rfl | decide), ?_⟩
          refine ⟨_, _, rfl, rfl, (by walk_at "o2"), fun s h_s => ?_⟩
          refine ⟨_, rfl, ?_⟩
          refine ⟨_, _, _, _, _, rfl, upd_same, (by walk_at "o2"), (by walk_at "o2"), fun t_3 a2_4 c2_4 h14 h15 => ?_⟩
          refine ⟨_, _, rfl, rfl, ?_⟩
          refine ⟨_, _, rfl, rfl, ?_⟩
          exact kont ((s + t_3) - 2) a2_4 c2_4 _ ((((Ow.Fm.refl.mut).same h5).mut).mut) upd_same
        · refine ⟨_, rfl, ?_⟩
          refine ⟨rfl, ?_⟩
          refine ⟨_, rfl, ?_⟩
          refine Ow.ifeqi (fun h16 => ?_) (fun h16 => ?_)
          · refine ⟨_, rfl, ?_⟩
            refine ⟨_, _, _, _, _, rfl, (h5 _ _ upd_same), (by walk_at "o2"), (by walk_at "o2"), fun t_4 a2_5 c2_5 h17 h18 => ?_⟩
            refine ⟨_, _, rfl, rfl, ?_⟩
            exact kont (t_4 - 3) a2_5 c2_5 _ (((Ow.Fm.refl.mut).same h5).mut) upd_same
          · refine ⟨_, rfl, ?_⟩
            refine ⟨_, _, _, _, _, rfl, (h5 _ _ upd_same), (by walk_at "o2"), (by walk_at "o2"), fun t_5 a2_6 c2_6 h19 h20 => ?_⟩
            refine ⟨_, _, rfl, rfl, ?_⟩
            refine ⟨_, rfl, (by walk_at "o2"), (by walk_at "o2"), ?_⟩
            refine for_range (lo := 0) (fun ixv σ2 H2 => ∃ (nu : Int) (a9 : Int) (c9 : Int) (v_5 : Option V), σ2 = [some (.ref box), some (.ref spec), some (.int (l_way)), some (.ref p), some (.int (nu)), v_5] ∧ Ow.Fm box H H2 ∧ H2 box = some (.lst [.int (a9), .int (m), .int (c9)]) ∧ H2 p = some (.tup [.int (lo), .int (hi)]) ∧ True) ⟨0, _, _, _, rfl, (((Ow.Fm.refl.mut).same h5).mut), upd_same, (Ow.at_mutT (h5 _ _ upd_same) h7), trivial⟩ ?_ ?_
            · rintro i _ Hn_2 h21 ⟨nu, a9, c9, _, rfl, h22, h23, h24, _⟩
              refine Ow.gturn (fun l_k h_l_k => ?_)
              refine ⟨_, rfl, ?_⟩
              refine ⟨_, _, rfl, rfl, (by walk_at "o2"), fun m_2 h_m_2 => ?_⟩
              refine ⟨_, rfl, ?_⟩
              refine ⟨_, _, _, _, _, rfl, h23, (by walk_at "o2"), (by walk_at "o2"), fun t_6 a2_7 c2_7 h25 h26 => ?_⟩
              refine ⟨_, _, rfl, rfl, ?_⟩
              refine ⟨_, rfl, fun l_number_here h_l_number_here => ?_⟩
              exact ⟨l_number_here, _, _, _, rfl, ((Ow.Fm.refl.trans h22).mut), upd_same, (Ow.at_mutT h23 h24), trivial⟩
            · rintro _ Hn_3 ⟨nu_2, a9_2, c9_2, _, rfl, h27, h28, h29, _⟩
              refine ⟨_, rfl, ?_⟩
              refine ⟨_, rfl, ?_⟩
              refine ⟨_, _, rfl, rfl, ?_⟩
              refine ⟨by show 2 ≤ sizeLine; decide, fun p_2 h_p_2 => ?_⟩
              refine ⟨_, rfl, ?_⟩
              refine ⟨_, _, rfl, rfl, ?_⟩
              refine Ow.ixi2 (SqL.of upd_same) (by walk_at "o2") (fun it_2 h_it_2 => ?_)
              exact kont it_2 a9_2 c9_2 _ ((Ow.Fm.refl.trans h27).same (Ow.same_new h_p_2)) (Ow.at_new h_p_2 h28)
    · replace c1 : H spec = some (.tup [.str ("signed"), .int (kd_w_2), .int (0)]) := c1
      have hk := Ow.krng c2
      have hl := Ow.kle c2
      have hg := Ow.kge c2
      simp only [Ow.KOk] at c2
      simp only [Ow.kw] at hk
      simp only [Ow.kle1] at hl
      simp only [Ow.kge1] at hg
      refine ⟨_, rfl, ?_⟩
      refine ⟨_, _, _, _, _, rfl, c0, (by walk_at "o2"), (by walk_at "o2"), fun l_way_2 a2_8 c2_8 h30 h31 => ?_⟩
      refine ⟨_, rfl, ?_⟩
      refine ⟨_, ((Ow.Tf_Kind.signed kd_w_2)), rfl, (Ow.at_mutT c0 c1), (by walk_at "o2"), fun lo_2 hi_2 h32 h33 p_3 Hn_4 h34 h35 h36 => ?_⟩
      refine ⟨_, rfl, ?_⟩
      refine ⟨_, _, rfl, rfl, ?_⟩
      refine ⟨_, rfl, ?_⟩
      refine Ow.ifd (fun h37 => ?_) (fun h37 => ?_)
      · refine ⟨_, rfl, ?_⟩
        refine ⟨_, rfl, ?_⟩
        refine Ow.ixt2 (SqT.of h36) (by walk_at "o2") (fun it_3 h_it_3 => ?_)
        refine ⟨_, rfl, ?_⟩
        refine ⟨_, _, _, _, _, rfl, (h34 _ _ upd_same), (by walk_at "o2"), (by walk_at "o2"), fun t_7 a2_9 c2_9 h38 h39 => ?_⟩
        refine ⟨_, _, rfl, rfl, ?_⟩
        refine ⟨_, _, rfl, rfl, ?_⟩
        exact kont ((it_3 + t_7) - 2) a2_9 c2_9 _ (((Ow.Fm.refl.mut).same h34).mut) upd_same
      · refine ⟨_, rfl, ?_⟩
        refine ⟨rfl, ?_⟩
        refine ⟨_, rfl, ?_⟩
        refine Ow.ifeqi (fun h40 => ?_) (fun h40 => ?_)
        · refine ⟨_, rfl, ?_⟩
          refine ⟨_, _, _, _, _, rfl, (h34 _ _ upd_same), (by walk_at "o2"), (by walk_at "o2"), fun t_8 a2_10 c2_10 h41 h42 => ?_⟩
          refine ⟨_, _, rfl, rfl, ?_⟩
          refine ⟨_, rfl, ?_⟩
          refine ⟨_, _, _, _, rfl, rfl, (SqT.of (Ow.at_mutT (h34 _ _ upd_same) (h34 _ _ (Ow.at_mutT c0 c1)))), (by first | rfl | decide), ?_⟩
          refine ⟨_, _, rfl, rfl, (by walk_at "o2"), fun s_2 h_s_2 => ?_⟩
          refine ⟨_, rfl, ?_⟩
          refine ⟨_, _, _, _, _, rfl, upd_same, (by walk_at "o2"), (by walk_at "o2"), fun t_9 a2_11 c2_11 h43 h44 => ?_⟩
          refine ⟨_, _, rfl, rfl, ?_⟩
          refine ⟨_, _, rfl, rfl, ?_⟩
          exact kont ((s_2 + t_9) - 2) a2_11 c2_11 _ ((((Ow.Fm.refl.mut).same h34).mut).mut) upd_same
        · refine ⟨_, rfl, ?_⟩
          refine ⟨rfl, ?_⟩
          refine ⟨_, rfl, ?_⟩
          refine Ow.ifeqi (fun h45 => ?_) (fun h45 => ?_)
          · refine ⟨_, rfl, ?_⟩
            refine ⟨_, _, _, _, _, rfl, (h34 _ _ upd_same), (by walk_at "o2"), (by walk_at "o2"), fun t_10 a2_12 c2_12 h46 h47 => ?_⟩
            refine ⟨_, _, rfl, rfl, ?_⟩
            exact kont (t_10 - 3) a2_12 c2_12 _ (((Ow.Fm.refl.mut).same h34).mut) upd_same
          · refine ⟨_, rfl, ?_⟩
            refine ⟨_, _, _, _, _, rfl, (h34 _ _ upd_same), (by walk_at "o2"), (by walk_at "o2"), fun t_11 a2_13 c2_13 h48 h49 => ?_⟩
            refine ⟨_, _, rfl, rfl, ?_⟩
            refine ⟨_, rfl, (by walk_at "o2"), (by walk_at "o2"), ?_⟩
            refine for_range (lo := 0) (fun ixv σ2 H2 => ∃ (nu : Int) (a9 : Int) (c9 : Int) (v_5 : Option V), σ2 = [some (.ref box), some (.ref spec), some (.int (l_way_2)), some (.ref p_3), some (.int (nu)), v_5] ∧ Ow.Fm box H H2 ∧ H2 box = some (.lst [.int (a9), .int (m), .int (c9)]) ∧ H2 p_3 = some (.tup [.int (lo_2), .int (hi_2)]) ∧ True) ⟨0, _, _, _, rfl, (((Ow.Fm.refl.mut).same h34).mut), upd_same, (Ow.at_mutT (h34 _ _ upd_same) h36), trivial⟩ ?_ ?_
            · rintro i_2 _ Hn_5 h50 ⟨nu_3, a9_3, c9_3, _, rfl, h51, h52, h53, _⟩
              refine Ow.gturn (fun l_k_2 h_l_k_2 => ?_)
              refine ⟨_, rfl, ?_⟩
              refine ⟨_, _, rfl, rfl, (by walk_at "o2"), fun m_3 h_m_3 => ?_⟩
              refine ⟨_, rfl, ?_⟩
              refine ⟨_, _, _, _, _, rfl, h52, (by walk_at "o2"), (by walk_at "o2"), fun t_12 a2_14 c2_14 h54 h55 => ?_⟩
              refine ⟨_, _, rfl, rfl, ?_⟩
              refine ⟨_, rfl, fun l_number_here_2 h_l_number_here_2 => ?_⟩
              exact ⟨l_number_here_2, _, _, _, rfl, ((Ow.Fm.refl.trans h51).mut), upd_same, (Ow.at_mutT h52 h53), trivial⟩
            · rintro _ Hn_6 ⟨nu_4, a9_4, c9_4, _, rfl, h56, h57, h58, _⟩
              refine ⟨_, rfl, ?_⟩
              refine ⟨_, rfl, ?_⟩
              refine ⟨_, _, rfl, rfl, ?_⟩
              refine ⟨by show 2 ≤ sizeLine; decide, fun p_4 h_p_4 => ?_⟩
              refine ⟨_, rfl, ?_⟩
              refine ⟨_, _, rfl, rfl, ?_⟩
              refine Ow.ixi2 (SqL.of upd_same) (by walk_at "o2") (fun it_4 h_it_4 => ?_)
              exact kont it_4 a9_4 c9_4 _ ((Ow.Fm.refl.trans h56).same (Ow.same_new h_p_4)) (Ow.at_new h_p_4 h57)
    · replace c1 : H spec = some (.tup [.str ("point"), .int (kd_w_3), .int (kd_p)]) := c1
      have hk := Ow.krng c2
      have hl := Ow.kle c2
      have hg := Ow.kge c2
      simp only [Ow.KOk] at c2
      simp only [Ow.kw] at hk
      simp only [Ow.kle1] at hl
      simp only [Ow.kge1] at hg
      refine ⟨_, rfl, ?_⟩
      refine ⟨_, _, _, _, _, rfl, c0, (by walk_at "o2"), (by walk_at "o2"), fun l_way_3 a2_15 c2_15 h59 h60 => ?_⟩
      refine ⟨_, rfl, ?_⟩
      refine ⟨_, ((Ow.Tf_Kind.point kd_w_3 kd_p)), rfl, (Ow.at_mutT c0 c1), (by walk_at "o2"), fun lo_3 hi_3 h61 h62 p_5 Hn_7 h63 h64 h65 => ?_⟩
      refine ⟨_, rfl, ?_⟩
      refine ⟨_, _, rfl, rfl, ?_⟩
      refine ⟨_, rfl, ?_⟩
      refine Ow.ifd (fun h66 => ?_) (fun h66 => ?_)
      · refine ⟨_, rfl, ?_⟩
        refine ⟨_, rfl, ?_⟩
        refine Ow.ixt2 (SqT.of h65) (by walk_at "o2") (fun it_5 h_it_5 => ?_)
        refine ⟨_, rfl, ?_⟩
        refine ⟨_, _, _, _, _, rfl, (h63 _ _ upd_same), (by walk_at "o2"), (by walk_at "o2"), fun t_13 a2_16 c2_16 h67 h68 => ?_⟩
        refine ⟨_, _, rfl, rfl, ?_⟩
        refine ⟨_, _, rfl, rfl, ?_⟩
        exact kont ((it_5 + t_13) - 2) a2_16 c2_16 _ (((Ow.Fm.refl.mut).same h63).mut) upd_same
      · refine ⟨_, rfl, ?_⟩
        refine ⟨rfl, ?_⟩
        refine ⟨_, rfl, ?_⟩
        refine Ow.ifeqi (fun h69 => ?_) (fun h69 => ?_)
        · refine ⟨_, rfl, ?_⟩
          refine ⟨_, _, _, _, _, rfl, (h63 _ _ upd_same), (by walk_at "o2"), (by walk_at "o2"), fun t_14 a2_17 c2_17 h70 h71 => ?_⟩
          refine ⟨_, _, rfl, rfl, ?_⟩
          refine ⟨_, rfl, ?_⟩
          refine ⟨_, _, _, _, rfl, rfl, (SqT.of (Ow.at_mutT (h63 _ _ upd_same) (h63 _ _ (Ow.at_mutT c0 c1)))), (by first | rfl | decide), ?_⟩
          refine ⟨_, _, rfl, rfl, (by walk_at "o2"), fun s_3 h_s_3 => ?_⟩
          refine ⟨_, rfl, ?_⟩
          refine ⟨_, _, _, _, _, rfl, upd_same, (by walk_at "o2"), (by walk_at "o2"), fun t_15 a2_18 c2_18 h72 h73 => ?_⟩
          refine ⟨_, _, rfl, rfl, ?_⟩
          refine ⟨_, _, rfl, rfl, ?_⟩
          exact kont ((s_3 + t_15) - 2) a2_18 c2_18 _ ((((Ow.Fm.refl.mut).same h63).mut).mut) upd_same
        · refine ⟨_, rfl, ?_⟩
          refine ⟨rfl, ?_⟩
          refine ⟨_, rfl, ?_⟩
          refine Ow.ifeqi (fun h74 => ?_) (fun h74 => ?_)
          · refine ⟨_, rfl, ?_⟩
            refine ⟨_, _, _, _, _, rfl, (h63 _ _ upd_same), (by walk_at "o2"), (by walk_at "o2"), fun t_16 a2_19 c2_19 h75 h76 => ?_⟩
            refine ⟨_, _, rfl, rfl, ?_⟩
            exact kont (t_16 - 3) a2_19 c2_19 _ (((Ow.Fm.refl.mut).same h63).mut) upd_same
          · refine ⟨_, rfl, ?_⟩
            refine ⟨_, _, _, _, _, rfl, (h63 _ _ upd_same), (by walk_at "o2"), (by walk_at "o2"), fun t_17 a2_20 c2_20 h77 h78 => ?_⟩
            refine ⟨_, _, rfl, rfl, ?_⟩
            refine ⟨_, rfl, (by walk_at "o2"), (by walk_at "o2"), ?_⟩
            refine for_range (lo := 0) (fun ixv σ2 H2 => ∃ (nu : Int) (a9 : Int) (c9 : Int) (v_5 : Option V), σ2 = [some (.ref box), some (.ref spec), some (.int (l_way_3)), some (.ref p_5), some (.int (nu)), v_5] ∧ Ow.Fm box H H2 ∧ H2 box = some (.lst [.int (a9), .int (m), .int (c9)]) ∧ H2 p_5 = some (.tup [.int (lo_3), .int (hi_3)]) ∧ True) ⟨0, _, _, _, rfl, (((Ow.Fm.refl.mut).same h63).mut), upd_same, (Ow.at_mutT (h63 _ _ upd_same) h65), trivial⟩ ?_ ?_
            · rintro i_3 _ Hn_8 h79 ⟨nu_5, a9_5, c9_5, _, rfl, h80, h81, h82, _⟩
              refine Ow.gturn (fun l_k_3 h_l_k_3 => ?_)
              refine ⟨_, rfl, ?_⟩
              refine ⟨_, _, rfl, rfl, (by walk_at "o2"), fun m_4 h_m_4 => ?_⟩
              refine ⟨_, rfl, ?_⟩
              refine ⟨_, _, _, _, _, rfl, h81, (by walk_at "o2"), (by walk_at "o2"), fun t_18 a2_21 c2_21 h83 h84 => ?_⟩
              refine ⟨_, _, rfl, rfl, ?_⟩
              refine ⟨_, rfl, fun l_number_here_3 h_l_number_here_3 => ?_⟩
              exact ⟨l_number_here_3, _, _, _, rfl, ((Ow.Fm.refl.trans h80).mut), upd_same, (Ow.at_mutT h81 h82), trivial⟩
            · rintro _ Hn_9 ⟨nu_6, a9_6, c9_6, _, rfl, h85, h86, h87, _⟩
              refine ⟨_, rfl, ?_⟩
              refine ⟨_, rfl, ?_⟩
              refine ⟨_, _, rfl, rfl, ?_⟩
              refine ⟨by show 2 ≤ sizeLine; decide, fun p_6 h_p_6 => ?_⟩
              refine ⟨_, rfl, ?_⟩
              refine ⟨_, _, rfl, rfl, ?_⟩
              refine Ow.ixi2 (SqL.of upd_same) (by walk_at "o2") (fun it_6 h_it_6 => ?_)
              exact kont it_6 a9_6 c9_6 _ ((Ow.Fm.refl.trans h85).same (Ow.same_new h_p_6)) (Ow.at_new h_p_6 h86)
theorem ok_l_whole (T : Tx K mg) : FnOk P w K mg base CX0 1 T.d_l_whole.f T.d_l_whole.fd ["_law_found"] (sp_l_whole T) := by
  refine T.d_l_whole.F.ok sc_l_whole (fun vs H Q E h => ?_) (fun cdv A outer s H vs Q E hr h => ?_)
  · obtain ⟨found, rfl, _⟩ := h
    rfl
  · obtain ⟨found, rfl, kont⟩ := h
    refine ⟨_, (pss_one (ps_ret (pe_and (pe_callB call_isi (by rfl) T.z_isinstance (by decide +kernel) (pa_cons (pv 0) (pa_cons (pe_bltn (v := .ty "int") (by rfl) T.z_int (by decide +kernel) rfl) pa_nil))) (pe_one (pe_not (pe_callB call_isi (by rfl) T.z_isinstance (by decide +kernel) (pa_cons (pv 0) (pa_cons (pe_bltn (v := .ty "bool") (by rfl) T.z_bool (by decide +kernel) rfl) pa_nil)))))))), ?_⟩
    refine ⟨_, rfl, ?_⟩
    refine ⟨_, _, _, _, true, rfl, .ty _, .base (.int _), kit_ty (by decide +kernel), ?_⟩
    refine ⟨_, rfl, ?_⟩
    refine iteT ?_
    refine ⟨_, rfl, ?_⟩
    refine ⟨_, _, _, _, false, rfl, .ty _, .base (.int _), kit_ty (by decide +kernel), ?_⟩
    refine ⟨_, rfl, ?_⟩
    exact kont
theorem ok_l_pair (T : Tx K mg) : FnOk P w K mg base CX0 2 T.d_l_pair.f T.d_l_pair.fd ["_law_found", "_law_word", "_law_truth"] (sp_l_pair T) := by
  refine T.d_l_pair.F.ok sc_l_pair (fun vs H Q E h => ?_) (fun cdv A outer s H vs Q E hr h => ?_)
  · obtain ⟨found, word, truth, f, g, rfl, _⟩ := h
    rfl
  · obtain ⟨found, word, truth, f, g, rfl, c0, c1, c2, kont⟩ := h
    refine ⟨_, (pss_cons (ps_if (PW.pt (pw_or (pt_not (pt_val (pe_callB call_isi (by rfl) T.z_isinstance (by decide +kernel) (pa_cons (pv 0) (pa_cons (pe_bltn (v := .ty "tuple") (by rfl) T.z_tuple (by decide +kernel) rfl) pa_nil))))) (pw_or (pt_cmpR op_ne (Ow.pe_nmi (pe_callB call_len_seq (by rfl) T.z_len (by decide +kernel) (pa_cons (pv 0) pa_nil))) pe_int (nomark _)) (pw_or (pt_not (pt_val (pe_call (Ow.ok_l_whole T) (hr.mono (by decide : 1 ≤ 1)) (by rfl) T.d_l_whole.m T.d_l_whole.F.kp T.d_l_whole.b .nil pass0 (pa_cons (pe_ix ix_tup (pv 0) pe_int (fun _ _ => rfl)) pa_nil)))) (pw_or1 (pt_not (pt_val (pe_callB call_isi (by rfl) T.z_isinstance (by decide +kernel) (pa_cons (pe_ix ix_tup (pv 0) pe_int (fun _ _ => rfl)) (pa_cons (pe_bltn (v := .ty "bool") (by rfl) T.z_bool (by decide +kernel) rfl) pa_nil)))))))))) (pss_one (ps_ret pe_bl)) pss_nil)
        (pss_one (ps_ret (pe_and (pe_cmpR op_eq (pe_ix ix_tup (pv 0) pe_int (fun _ _ => rfl)) (pv 1) (nomark _)) (pe_one (pe_cmpR op_eq (pe_ix ix_tup (pv 0) pe_int (fun _ _ => rfl)) (pv 2) (nomark _))))))), ?_⟩
    refine ⟨_, rfl, ?_⟩
    refine ⟨_, _, _, _, true, rfl, .ty _, .base (.tup c0), kit_ty (by decide +kernel), ?_⟩
    refine ⟨_, rfl, ?_⟩
    refine iteF ?_
    refine ⟨_, rfl, ?_⟩
    refine ⟨_, _, rfl, .inr (SqT.of c0), ?_⟩
    refine ⟨_, rfl, fun len h_len => ?_⟩
    replace h_len : len = 2 := h_len
    refine ⟨rfl, ?_⟩
    refine ⟨_, rfl, ?_⟩
    refine Ow.ifnei (fun h1 => ?_) (fun h1 => ?_)
    · refine iteT ?_
      exact ((by walk_at "o2") : False).elim
    · refine ⟨_, rfl, ?_⟩
      refine ⟨_, _, _, _, rfl, rfl, (SqT.of c0), (by first | rfl | decide), ?_⟩
      refine ⟨_, rfl, ?_⟩
      refine ⟨_, rfl, ?_⟩
      refine iteF ?_
      refine ⟨_, rfl, ?_⟩
      refine ⟨_, _, _, _, rfl, rfl, (SqT.of c0), (by first | rfl | decide), ?_⟩
      refine ⟨_, _, _, _, true, rfl, .ty _, .base (.bl _), kit_ty (by decide +kernel), ?_⟩
      refine ⟨_, rfl, ?_⟩
      refine iteF ?_
      refine ⟨_, rfl, ?_⟩
      refine ⟨_, _, _, _, rfl, rfl, (SqT.of c0), (by first | rfl | decide), ?_⟩
      refine ⟨_, rfl, ?_⟩
      refine ⟨rfl, ?_⟩
      refine ⟨_, rfl, ?_⟩
      refine Ow.ifeqi (fun h2 => ?_) (fun h2 => ?_)
      · refine ⟨_, rfl, ?_⟩
        refine ⟨_, _, _, _, rfl, rfl, (SqT.of c0), (by first | rfl | decide), ?_⟩
        refine ⟨_, rfl, ?_⟩
        refine ⟨rfl, ?_⟩
        refine Ow.eqeqb (by walk_at "o2") ?_
        exact kont _ (Same.refl _)
      · exact ((by walk_at "o2") : False).elim
theorem ok_Kind_go_round (T : Tx K mg) : FnOk P w K mg base CX0 3 T.d_Kind_go_round.f T.d_Kind_go_round.fd ["self", "number"] (sp_Kind_go_round T) := by
  refine T.d_Kind_go_round.F.ok sc_Kind_go_round (fun vs H Q E h => ?_) (fun cdv A outer s H vs Q E hr h => ?_)
  · obtain ⟨self, number, kd, dx_self, rfl, _⟩ := h
    rfl
  · obtain ⟨self, number, kd, dx_self, rfl, c0, c1, kont⟩ := h
    refine ⟨_, (pss_one (ps_ret (pe_tup (pa_cons (pe_op Ow.op_mask (pv 1) (pe_op op_sub (pe_op Ow.op_shl1 pe_int (pe_fld (pv 0) rfl)) pe_int)) (pa_cons (pe_not (Ow.pe_methA (R := fun C sp => (C = T.k_Plain.C ∧ sp = sp_Kind_is_count T) ∨ (C = T.k_Signed.C ∧ sp = sp_Kind_is_count T) ∨ (C = T.k_Pointed.C ∧ sp = sp_Kind_is_count T)) (pv 0) (Ow.mal_or (Ow.mal_one ⟨_, _, _, _, T.k_Plain.cl, T.mt_Plain_is_count, Ow.ok_Kind_is_count T, hr.mono (by decide : 2 ≤ 2), T.d_Kind_is_count.b⟩) (Ow.mal_or (Ow.mal_one ⟨_, _, _, _, T.k_Signed.cl, T.mt_Signed_is_count, Ow.ok_Kind_is_count T, hr.mono (by decide : 2 ≤ 2), T.d_Kind_is_count.b⟩) (Ow.mal_one ⟨_, _, _, _, T.k_Pointed.cl, T.mt_Pointed_is_count, Ow.ok_Kind_is_count T, hr.mono (by decide : 2 ≤ 2), T.d_Kind_is_count.b⟩))) pass0 (pa_cons (pv 1) pa_nil))) pa_nil))))), ?_⟩
    rcases kd with ⟨kd_w⟩ | ⟨kd_w_2⟩ | ⟨kd_w_3, kd_p⟩
    · replace c0 : H self = some (.ins T.k_Plain.C dx_self [(("width" : Str), V.int (kd_w)), (("point" : Str), V.int (0))]) := c0
      have hk := Ow.krng c1
      have hl := Ow.kle c1
      have hg := Ow.kge c1
      simp only [Ow.KOk] at c1
      simp only [Ow.kw] at hk
      simp only [Ow.kle1] at hl
      simp only [Ow.kge1] at hg
      refine ⟨_, rfl, ?_⟩
      refine ⟨_, rfl, ?_⟩
      refine ⟨_, _, _, _, V.int (kd_w), rfl, c0, T.k_Plain.cl, T.na_Plain_width, rfl, ?_⟩
      refine ⟨_, rfl, rfl, (by walk_at "o2"), fun B h_B h0_B => ?_⟩
      refine ⟨_, _, rfl, rfl, ?_⟩
      refine ⟨_, _, kd_w.toNat, rfl, rfl, (by walk_at "o2"), fun r h_r h0_r h1_r => ?_⟩
      refine ⟨_, rfl, ?_⟩
      refine ⟨_, _, _, _, _, rfl, .inl ⟨rfl, rfl⟩, c0, rfl, ?_⟩
      refine ⟨_, rfl, ?_⟩
      refine ⟨_, _, ((Ow.Tf_Kind.plain kd_w)), _, rfl, c0, (by walk_at "o2"), fun t h1 Hn h2 => ?_⟩
      refine ⟨_, rfl, ?_⟩
      refine ⟨by show 2 ≤ sizeLine; decide, fun p h_p => ?_⟩
      have h3 : r = number % 2 ^ (Ow.kw ((Ow.Tf_Kind.plain kd_w))).toNat := (by first | rfl | omega | (subst_vars; rfl))
      subst h3
      exact kont (!t) (by first | assumption | omega | (simp only [Bool.not_eq_true', Bool.false_eq_true, false_iff, true_iff, iff_false, iff_true, decide_eq_true_eq, decide_eq_false_iff_not, V.int.injEq]; omega) | exact Ow.nbi (by assumption) | (subst_vars; exact Ow.nbe (Ow.knr_ne (by omega) hl hg)) | omega) _ _ (h2.trans (Ow.same_new h_p)) (Same.free h2 h_p) upd_same
    · replace c0 : H self = some (.ins T.k_Signed.C dx_self [(("width" : Str), V.int (kd_w_2)), (("point" : Str), V.int (0))]) := c0
      have hk := Ow.krng c1
      have hl := Ow.kle c1
      have hg := Ow.kge c1
      simp only [Ow.KOk] at c1
      simp only [Ow.kw] at hk
      simp only [Ow.kle1] at hl
      simp only [Ow.kge1] at hg
      refine ⟨_, rfl, ?_⟩
      refine ⟨_, rfl, ?_⟩
      refine ⟨_, _, _, _, V.int (kd_w_2), rfl, c0, T.k_Signed.cl, T.na_Signed_width, rfl, ?_⟩
      refine ⟨_, rfl, rfl, (by walk_at "o2"), fun B_2 h_B_2 h0_B_2 => ?_⟩
      refine ⟨_, _, rfl, rfl, ?_⟩
      refine ⟨_, _, kd_w_2.toNat, rfl, rfl, (by walk_at "o2"), fun r_2 h_r_2 h0_r_2 h1_r_2 => ?_⟩
      refine ⟨_, rfl, ?_⟩
      refine ⟨_, _, _, _, _, rfl, .inr (.inl ⟨rfl, rfl⟩), c0, rfl, ?_⟩
      refine ⟨_, rfl, ?_⟩
      refine ⟨_, _, ((Ow.Tf_Kind.signed kd_w_2)), _, rfl, c0, (by walk_at "o2"), fun t_2 h4 Hn_2 h5 => ?_⟩
      refine ⟨_, rfl, ?_⟩
      refine ⟨by show 2 ≤ sizeLine; decide, fun p_2 h_p_2 => ?_⟩
      have h6 : r_2 = number % 2 ^ (Ow.kw ((Ow.Tf_Kind.signed kd_w_2))).toNat := (by first | rfl | omega | (subst_vars; rfl))
      subst h6
      exact kont (!t_2) (by first | assumption | omega | (simp only [Bool.not_eq_true', Bool.false_eq_true, false_iff, true_iff, iff_false, iff_true, decide_eq_true_eq, decide_eq_false_iff_not, V.int.injEq]; omega) | exact Ow.nbi (by assumption) | (subst_vars; exact Ow.nbe (Ow.knr_ne (by omega) hl hg)) | omega) _ _ (h5.trans (Ow.same_new h_p_2)) (Same.free h5 h_p_2) upd_same
    · replace c0 : H self = some (.ins T.k_Pointed.C dx_self [(("width" : Str), V.int (kd_w_3)), (("point" : Str), V.int (kd_p))]) := c0
      have hk := Ow.krng c1
      have hl := Ow.kle c1
      have hg := Ow.kge c1
      simp only [Ow.KOk] at c1
      simp only [Ow.kw] at hk
      simp only [Ow.kle1] at hl
      simp only [Ow.kge1] at hg
      refine ⟨_, rfl, ?_⟩
      refine ⟨_, rfl, ?_⟩
      refine ⟨_, _, _, _, V.int (kd_w_3), rfl, c0, T.k_Pointed.cl, T.na_Pointed_width, rfl, ?_⟩
      refine ⟨_, rfl, rfl, (by walk_at "o2"), fun B_3 h_B_3 h0_B_3 => ?_⟩
      refine ⟨_, _, rfl, rfl, ?_⟩
      refine ⟨_, _, kd_w_3.toNat, rfl, rfl, (by walk_at "o2"), fun r_3 h_r_3 h0_r_3 h1_r_3 => ?_⟩
      refine ⟨_, rfl, ?_⟩
      refine ⟨_, _, _, _, _, rfl, .inr (.inr (⟨rfl, rfl⟩)), c0, rfl, ?_⟩
      refine ⟨_, rfl, ?_⟩
      refine ⟨_, _, ((Ow.Tf_Kind.point kd_w_3 kd_p)), _, rfl, c0, (by walk_at "o2"), fun t_3 h7 Hn_3 h8 => ?_⟩
      refine ⟨_, rfl, ?_⟩
      refine ⟨by show 2 ≤ sizeLine; decide, fun p_3 h_p_3 => ?_⟩
      have h9 : r_3 = number % 2 ^ (Ow.kw ((Ow.Tf_Kind.point kd_w_3 kd_p))).toNat := (by first | rfl | omega | (subst_vars; rfl))
      subst h9
      exact kont (!t_3) (by first | assumption | omega | (simp only [Bool.not_eq_true', Bool.false_eq_true, false_iff, true_iff, iff_false, iff_true, decide_eq_true_eq, decide_eq_false_iff_not, V.int.injEq]; omega) | exact Ow.nbi (by assumption) | (subst_vars; exact Ow.nbe (Ow.knr_ne (by omega) hl hg)) | omega) _ _ (h8.trans (Ow.same_new h_p_3)) (Same.free h8 h_p_3) upd_same
theorem ok_l_right (T : Tx K mg) : FnOk P w K mg base CX0 5 T.d_l_right.f T.d_l_right.fd ["_law_kind_here", "_law_spec_here", "_law_number_here"] (sp_l_right T) := by
  refine T.d_l_right.F.ok sc_l_right (fun vs H Q E h => ?_) (fun cdv A outer s H vs Q E hr h => ?_)
  · obtain ⟨kind, spec, number, kd, dx_kind, rfl, _⟩ := h
    rfl
  · obtain ⟨kind, spec, number, kd, dx_kind, rfl, c0, c1, c2, kont⟩ := h
    refine ⟨_, (pss_cons (ps_set (i := 3) sc_l_right.nd rfl (Or.inl rfl) (pe_call (Ow.ok_l_ends T) (hr.mono (by decide : 1 ≤ 4)) (by rfl) T.d_l_ends.m T.d_l_ends.F.kp T.d_l_ends.b .nil pass0 (pa_cons (pv 1) pa_nil)))
        (pss_cons (ps_set (i := 4) sc_l_right.nd rfl (Or.inl rfl) (pe_op Ow.op_shl1 pe_int (pe_ix ix_tup (pv 1) pe_int (fun _ _ => rfl))))
        (pss_cons (ps_set (i := 5) sc_l_right.nd rfl (Or.inl rfl) (pe_or (pe_cmpR op_lt (pv 2) (pe_ix ix_tup (pv 3) pe_int (fun _ _ => rfl)) (nomark _)) (pe_one (pe_cmpR op_gt (pv 2) (pe_ix ix_tup (pv 3) pe_int (fun _ _ => rfl)) (nomark _)))))
        (pss_cons (ps_set (i := 6) sc_l_right.nd rfl (Or.inl rfl) (pv 2))
        (pss_cons (ps_if (pt_cmpR op_lt (pv 2) (pe_ix ix_tup (pv 3) pe_int (fun _ _ => rfl)) (nomark _)) (pss_one (ps_set (i := 6) sc_l_right.nd rfl (Or.inl rfl) (pe_ix ix_tup (pv 3) pe_int (fun _ _ => rfl)))) pss_nil)
        (pss_cons (ps_if (pt_cmpR op_gt (pv 2) (pe_ix ix_tup (pv 3) pe_int (fun _ _ => rfl)) (nomark _)) (pss_one (ps_set (i := 6) sc_l_right.nd rfl (Or.inl rfl) (pe_ix ix_tup (pv 3) pe_int (fun _ _ => rfl)))) pss_nil)
        (pss_cons (ps_if (pt_cmpR op_lt (pv 6) pe_int (nomark _)) (pss_one (ps_set (i := 6) sc_l_right.nd rfl (Or.inl rfl) (Ow.pe_nmi (pe_op op_add (pv 6) (pv 4))))) pss_nil)
        (pss_cons (ps_set (i := 7) sc_l_right.nd rfl (Or.inl rfl) (Ow.pe_nmi (pe_op op_sub (pv 2) (pe_op Ow.op_mulN (pe_op Ow.op_divN (pv 2) (pv 4)) (pv 4)))))
        (pss_one (ps_ret (pe_and (pe_call (Ow.ok_l_pair T) (hr.mono (by decide : 2 ≤ 4)) (by rfl) T.d_l_pair.m T.d_l_pair.F.kp T.d_l_pair.b .nil pass0 (pa_cons (Ow.pe_methA (R := fun C sp => (C = T.k_Plain.C ∧ sp = sp_Kind_go_round T) ∨ (C = T.k_Signed.C ∧ sp = sp_Kind_go_round T) ∨ (C = T.k_Pointed.C ∧ sp = sp_Kind_go_round T)) (pv 0) (Ow.mal_or (Ow.mal_one ⟨_, _, _, _, T.k_Plain.cl, T.mt_Plain_go_round, Ow.ok_Kind_go_round T, hr.mono (by decide : 3 ≤ 4), T.d_Kind_go_round.b⟩) (Ow.mal_or (Ow.mal_one ⟨_, _, _, _, T.k_Signed.cl, T.mt_Signed_go_round, Ow.ok_Kind_go_round T, hr.mono (by decide : 3 ≤ 4), T.d_Kind_go_round.b⟩) (Ow.mal_one ⟨_, _, _, _, T.k_Pointed.cl, T.mt_Pointed_go_round, Ow.ok_Kind_go_round T, hr.mono (by decide : 3 ≤ 4), T.d_Kind_go_round.b⟩))) pass0 (pa_cons (pv 2) pa_nil)) (pa_cons (pv 7) (pa_cons (pv 5) pa_nil)))) (pe_one (pe_call (Ow.ok_l_pair T) (hr.mono (by decide : 2 ≤ 4)) (by rfl) T.d_l_pair.m T.d_l_pair.F.kp T.d_l_pair.b .nil pass0 (pa_cons (Ow.pe_methA (R := fun C sp => (C = T.k_Plain.C ∧ sp = sp_Kind_stop_at T) ∨ (C = T.k_Signed.C ∧ sp = sp_Kind_stop_at T) ∨ (C = T.k_Pointed.C ∧ sp = sp_Kind_stop_at T)) (pv 0) (Ow.mal_or (Ow.mal_one ⟨_, _, _, _, T.k_Plain.cl, T.mt_Plain_stop_at, Ow.ok_Kind_stop_at T, hr.mono (by decide : 4 ≤ 4), T.d_Kind_stop_at.b⟩) (Ow.mal_or (Ow.mal_one ⟨_, _, _, _, T.k_Signed.cl, T.mt_Signed_stop_at, Ow.ok_Kind_stop_at T, hr.mono (by decide : 4 ≤ 4), T.d_Kind_stop_at.b⟩) (Ow.mal_one ⟨_, _, _, _, T.k_Pointed.cl, T.mt_Pointed_stop_at, Ow.ok_Kind_stop_at T, hr.mono (by decide : 4 ≤ 4), T.d_Kind_stop_at.b⟩))) pass0 (pa_cons (pv 2) pa_nil)) (pa_cons (pv 6) (pa_cons (pv 5) pa_nil)))))))))))))))), ?_⟩
    rcases kd with ⟨kd_w⟩ | ⟨kd_w_2⟩ | ⟨kd_w_3, kd_p⟩
    · replace c0 : H kind = some (.ins T.k_Plain.C dx_kind [(("width" : Str), V.int (kd_w)), (("point" : Str), V.int (0))]) := c0
      replace c1 : H spec = some (.tup [.str ("plain"), .int (kd_w), .int (0)]) := c1
      have hk := Ow.krng c2
      have hl := Ow.kle c2
      have hg := Ow.kge c2
      simp only [Ow.KOk] at c2
      simp only [Ow.kw] at hk
      simp only [Ow.kle1] at hl
      simp only [Ow.kge1] at hg
      refine ⟨_, rfl, ?_⟩
      refine ⟨_, ((Ow.Tf_Kind.plain kd_w)), rfl, c1, (by walk_at "o2"), fun lo hi h1 h2 p Hn h3 h4 h5 => ?_⟩
      refine Ow.gnmS (σ' := [_, _, _, _, _, _, _, _]) rfl ?_
      refine ⟨_, rfl, ?_⟩
      refine ⟨_, _, _, _, rfl, rfl, (SqT.of (h3 _ _ c1)), (by first | rfl | decide), ?_⟩
      refine ⟨_, rfl, rfl, (by walk_at "o2"), fun l_size h_l_size h0_l_size => ?_⟩
      refine Ow.gnmS (σ' := [_, _, _, _, _, _, _, _]) rfl ?_
      refine ⟨_, rfl, ?_⟩
      refine ⟨_, rfl, ?_⟩
      refine ⟨_, _, _, _, rfl, rfl, (SqT.of h5), (by first | rfl | decide), ?_⟩
      refine ⟨_, _, rfl, rfl, ?_⟩
      refine ⟨_, rfl, ?_⟩
      refine Ow.ifd (fun h6 => ?_) (fun h6 => ?_)
      · refine Ow.gnmS (σ' := [_, _, _, _, _, _, _, _]) rfl ?_
        refine ⟨_, rfl, ?_⟩
        refine Ow.gnmS (σ' := [_, _, _, _, _, _, _, _]) rfl ?_
        refine ⟨_, rfl, ?_⟩
        refine ⟨_, rfl, ?_⟩
        refine ⟨_, _, _, _, rfl, rfl, (SqT.of h5), (by first | rfl | decide), ?_⟩
        refine ⟨_, _, rfl, rfl, ?_⟩
        refine ⟨_, rfl, ?_⟩
        refine Ow.ifd (fun h7 => ?_) (fun h7 => ?_)
        · refine ⟨_, rfl, ?_⟩
          refine ⟨_, _, _, _, rfl, rfl, (SqT.of h5), (by first | rfl | decide), ?_⟩
          refine ⟨_, rfl, ?_⟩
          refine ⟨_, rfl, ?_⟩
          refine ⟨_, _, _, _, rfl, rfl, (SqT.of h5), (by first | rfl | decide), ?_⟩
          refine ⟨_, _, rfl, rfl, ?_⟩
          refine ⟨_, rfl, ?_⟩
          refine Ow.ifd (fun h8 => ?_) (fun h8 => ?_)
          · refine ⟨_, rfl, ?_⟩
            refine ⟨_, _, _, _, rfl, rfl, (SqT.of h5), (by first | rfl | decide), ?_⟩
            refine ⟨_, rfl, ?_⟩
            refine ⟨_, _, rfl, rfl, ?_⟩
            refine ⟨_, rfl, ?_⟩
            refine Ow.ifd (fun h9 => ?_) (fun h9 => ?_)
            · refine ⟨_, rfl, ?_⟩
              refine ⟨_, rfl, ?_⟩
              refine ⟨_, _, rfl, rfl, ?_⟩
              refine ⟨_, rfl, fun l_nearest h_l_nearest => ?_⟩
              refine ⟨_, rfl, ?_⟩
              refine ⟨_, rfl, ?_⟩
              refine ⟨_, rfl, ?_⟩
              refine ⟨_, _, rfl, rfl, (by walk_at "o2"), fun q h_q => ?_⟩
              refine ⟨_, rfl, ?_⟩
              refine ⟨_, _, rfl, rfl, (by walk_at "o2"), fun m h_m => ?_⟩
              refine ⟨_, _, rfl, rfl, ?_⟩
              refine ⟨_, rfl, fun l_rest h_l_rest => ?_⟩
              refine Ow.gnmS (σ' := [_, _, _, _, _, _, _, _]) rfl ?_
              have er := Ow.rest_of (n := number) (s := l_size) (by assumption) (by assumption) h_l_rest h_l_size
              have en := Ow.near_of (kd := _) (n := number) (N := l_nearest) (S := l_size) h_l_size hl hg (by omega) (by omega) (by omega) (by omega) (by omega)
              refine ⟨_, rfl, ?_⟩
              refine ⟨_, _, _, _, _, rfl, .inl ⟨rfl, rfl⟩, (h3 _ _ c0), rfl, ?_⟩
              refine ⟨_, rfl, ?_⟩
              refine ⟨_, _, ((Ow.Tf_Kind.plain kd_w)), _, rfl, (h3 _ _ c0), (by walk_at "o2"), fun b h10 p_2 Hn_2 h11 h12 h13 => ?_⟩
              refine ⟨_, rfl, ?_⟩
              refine ⟨_, rfl, ?_⟩
              refine ⟨_, _, _, _, _, rfl, h13, (by first | exact er | exact en | exact (by assumption : _ = true ↔ ¬ (Ow.kl _ ≤ number ∧ number ≤ Ow.kg _)).mpr (by omega) | exact Bool.eq_iff_iff.mpr ((by assumption : _ = true ↔ ¬ (Ow.kl _ ≤ number ∧ number ≤ Ow.kg _)).trans (by rw [decide_eq_true_eq]; omega)) | omega), (by first | exact er | exact en | exact (by assumption : _ = true ↔ ¬ (Ow.kl _ ≤ number ∧ number ≤ Ow.kg _)).mpr (by omega) | exact Bool.eq_iff_iff.mpr ((by assumption : _ = true ↔ ¬ (Ow.kl _ ≤ number ∧ number ≤ Ow.kg _)).trans (by rw [decide_eq_true_eq]; omega)) | omega), fun Hn_3 h14 => ?_⟩
              refine ⟨_, rfl, ?_⟩
              refine iteT ?_
              refine ⟨_, rfl, ?_⟩
              refine ⟨_, _, _, _, _, rfl, .inl ⟨rfl, rfl⟩, (h14 _ _ (h11 _ _ (h3 _ _ c0))), rfl, ?_⟩
              refine ⟨_, rfl, ?_⟩
              refine ⟨_, _, ((Ow.Tf_Kind.plain kd_w)), _, rfl, (h14 _ _ (h11 _ _ (h3 _ _ c0))), (by walk_at "o2"), fun b_2 h15 p_3 Hn_4 h16 h17 h18 => ?_⟩
              refine ⟨_, rfl, ?_⟩
              refine ⟨_, rfl, ?_⟩
              refine ⟨_, _, _, _, _, rfl, h18, (by first | exact er | exact en | exact (by assumption : _ = true ↔ ¬ (Ow.kl _ ≤ number ∧ number ≤ Ow.kg _)).mpr (by omega) | exact Bool.eq_iff_iff.mpr ((by assumption : _ = true ↔ ¬ (Ow.kl _ ≤ number ∧ number ≤ Ow.kg _)).trans (by rw [decide_eq_true_eq]; omega)) | omega), (by first | exact er | exact en | exact (by assumption : _ = true ↔ ¬ (Ow.kl _ ≤ number ∧ number ≤ Ow.kg _)).mpr (by omega) | exact Bool.eq_iff_iff.mpr ((by assumption : _ = true ↔ ¬ (Ow.kl _ ≤ number ∧ number ≤ Ow.kg _)).trans (by rw [decide_eq_true_eq]; omega)) | omega), fun Hn_5 h19 => ?_⟩
              exact kont _ ((((h3.trans h11).trans h14).trans h16).trans h19)
            · refine ⟨_, rfl, ?_⟩
              refine ⟨_, rfl, ?_⟩
              refine ⟨_, rfl, ?_⟩
              refine ⟨_, _, rfl, rfl, (by walk_at "o2"), fun q_2 h_q_2 => ?_⟩
              refine ⟨_, rfl, ?_⟩
              refine ⟨_, _, rfl, rfl, (by walk_at "o2"), fun m_2 h_m_2 => ?_⟩
              refine ⟨_, _, rfl, rfl, ?_⟩
              refine ⟨_, rfl, fun l_rest_2 h_l_rest_2 => ?_⟩
              refine Ow.gnmS (σ' := [_, _, _, _, _, _, _, _]) rfl ?_
              have er := Ow.rest_of (n := number) (s := l_size) (by assumption) (by assumption) h_l_rest_2 h_l_size
              have en := Ow.near_of (kd := _) (n := number) (N := hi) (S := l_size) h_l_size hl hg (by omega) (by omega) (by omega) (by omega) (by omega)
              refine ⟨_, rfl, ?_⟩
              refine ⟨_, _, _, _, _, rfl, .inl ⟨rfl, rfl⟩, (h3 _ _ c0), rfl, ?_⟩
              refine ⟨_, rfl, ?_⟩
              refine ⟨_, _, ((Ow.Tf_Kind.plain kd_w)), _, rfl, (h3 _ _ c0), (by walk_at "o2"), fun b_3 h20 p_4 Hn_6 h21 h22 h23 => ?_⟩
              refine ⟨_, rfl, ?_⟩
              refine ⟨_, rfl, ?_⟩
              refine ⟨_, _, _, _, _, rfl, h23, (by first | exact er | exact en | exact (by assumption : _ = true ↔ ¬ (Ow.kl _ ≤ number ∧ number ≤ Ow.kg _)).mpr (by omega) | exact Bool.eq_iff_iff.mpr ((by assumption : _ = true ↔ ¬ (Ow.kl _ ≤ number ∧ number ≤ Ow.kg _)).trans (by rw [decide_eq_true_eq]; omega)) | omega), (by first | exact er | exact en | exact (by assumption : _ = true ↔ ¬ (Ow.kl _ ≤ number ∧ number ≤ Ow.kg _)).mpr (by omega) | exact Bool.eq_iff_iff.mpr ((by assumption : _ = true ↔ ¬ (Ow.kl _ ≤ number ∧ number ≤ Ow.kg _)).trans (by rw [decide_eq_true_eq]; omega)) | omega), fun Hn_7 h24 => ?_⟩
              refine ⟨_, rfl, ?_⟩
              refine iteT ?_
              refine ⟨_, rfl, ?_⟩
              refine ⟨_, _, _, _, _, rfl, .inl ⟨rfl, rfl⟩, (h24 _ _ (h21 _ _ (h3 _ _ c0))), rfl, ?_⟩
              refine ⟨_, rfl, ?_⟩
              refine ⟨_, _, ((Ow.Tf_Kind.plain kd_w)), _, rfl, (h24 _ _ (h21 _ _ (h3 _ _ c0))), (by walk_at "o2"), fun b_4 h25 p_5 Hn_8 h26 h27 h28 => ?_⟩
              refine ⟨_, rfl, ?_⟩
              refine ⟨_, rfl, ?_⟩
              refine ⟨_, _, _, _, _, rfl, h28, (by first | exact er | exact en | exact (by assumption : _ = true ↔ ¬ (Ow.kl _ ≤ number ∧ number ≤ Ow.kg _)).mpr (by omega) | exact Bool.eq_iff_iff.mpr ((by assumption : _ = true ↔ ¬ (Ow.kl _ ≤ number ∧ number ≤ Ow.kg _)).trans (by rw [decide_eq_true_eq]; omega)) | omega), (by first | exact er | exact en | exact (by assumption : _ = true ↔ ¬ (Ow.kl _ ≤ number ∧ number ≤ Ow.kg _)).mpr (by omega) | exact Bool.eq_iff_iff.mpr ((by assumption : _ = true ↔ ¬ (Ow.kl _ ≤ number ∧ number ≤ Ow.kg _)).trans (by rw [decide_eq_true_eq]; omega)) | omega), fun Hn_9 h29 => ?_⟩
              exact kont _ ((((h3.trans h21).trans h24).trans h26).trans h29)
          · refine ⟨_, rfl, ?_⟩
            refine ⟨_, _, rfl, rfl, ?_⟩
            refine ⟨_, rfl, ?_⟩
            refine Ow.ifd (fun h30 => ?_) (fun h30 => ?_)
            · refine ⟨_, rfl, ?_⟩
              refine ⟨_, rfl, ?_⟩
              refine ⟨_, _, rfl, rfl, ?_⟩
              refine ⟨_, rfl, fun l_nearest_2 h_l_nearest_2 => ?_⟩
              refine ⟨_, rfl, ?_⟩
              refine ⟨_, rfl, ?_⟩
              refine ⟨_, rfl, ?_⟩
              refine ⟨_, _, rfl, rfl, (by walk_at "o2"), fun q_3 h_q_3 => ?_⟩
              refine ⟨_, rfl, ?_⟩
              refine ⟨_, _, rfl, rfl, (by walk_at "o2"), fun m_3 h_m_3 => ?_⟩
              refine ⟨_, _, rfl, rfl, ?_⟩
              refine ⟨_, rfl, fun l_rest_3 h_l_rest_3 => ?_⟩
              refine Ow.gnmS (σ' := [_, _, _, _, _, _, _, _]) rfl ?_
              have er := Ow.rest_of (n := number) (s := l_size) (by assumption) (by assumption) h_l_rest_3 h_l_size
              have en := Ow.near_of (kd := _) (n := number) (N := l_nearest_2) (S := l_size) h_l_size hl hg (by omega) (by omega) (by omega) (by omega) (by omega)
              refine ⟨_, rfl, ?_⟩
              refine ⟨_, _, _, _, _, rfl, .inl ⟨rfl, rfl⟩, (h3 _ _ c0), rfl, ?_⟩
              refine ⟨_, rfl, ?_⟩
              refine ⟨_, _, ((Ow.Tf_Kind.plain kd_w)), _, rfl, (h3 _ _ c0), (by walk_at "o2"), fun b_5 h31 p_6 Hn_10 h32 h33 h34 => ?_⟩
              refine ⟨_, rfl, ?_⟩
              refine ⟨_, rfl, ?_⟩
              refine ⟨_, _, _, _, _, rfl, h34, (by first | exact er | exact en | exact (by assumption : _ = true ↔ ¬ (Ow.kl _ ≤ number ∧ number ≤ Ow.kg _)).mpr (by omega) | exact Bool.eq_iff_iff.mpr ((by assumption : _ = true ↔ ¬ (Ow.kl _ ≤ number ∧ number ≤ Ow.kg _)).trans (by rw [decide_eq_true_eq]; omega)) | omega), (by first | exact er | exact en | exact (by assumption : _ = true ↔ ¬ (Ow.kl _ ≤ number ∧ number ≤ Ow.kg _)).mpr (by omega) | exact Bool.eq_iff_iff.mpr ((by assumption : _ = true ↔ ¬ (Ow.kl _ ≤ number ∧ number ≤ Ow.kg _)).trans (by rw [decide_eq_true_eq]; omega)) | omega), fun Hn_11 h35 => ?_⟩
              refine ⟨_, rfl, ?_⟩
              refine iteT ?_
              refine ⟨_, rfl, ?_⟩
              refine ⟨_, _, _, _, _, rfl, .inl ⟨rfl, rfl⟩, (h35 _ _ (h32 _ _ (h3 _ _ c0))), rfl, ?_⟩
              refine ⟨_, rfl, ?_⟩
              refine ⟨_, _, ((Ow.Tf_Kind.plain kd_w)), _, rfl, (h35 _ _ (h32 _ _ (h3 _ _ c0))), (by walk_at "o2"), fun b_6 h36 p_7 Hn_12 h37 h38 h39 => ?_⟩
              refine ⟨_, rfl, ?_⟩
              refine ⟨_, rfl, ?_⟩
              refine ⟨_, _, _, _, _, rfl, h39, (by first | exact er | exact en | exact (by assumption : _ = true ↔ ¬ (Ow.kl _ ≤ number ∧ number ≤ Ow.kg _)).mpr (by omega) | exact Bool.eq_iff_iff.mpr ((by assumption : _ = true ↔ ¬ (Ow.kl _ ≤ number ∧ number ≤ Ow.kg _)).trans (by rw [decide_eq_true_eq]; omega)) | omega), (by first | exact er | exact en | exact (by assumption : _ = true ↔ ¬ (Ow.kl _ ≤ number ∧ number ≤ Ow.kg _)).mpr (by omega) | exact Bool.eq_iff_iff.mpr ((by assumption : _ = true ↔ ¬ (Ow.kl _ ≤ number ∧ number ≤ Ow.kg _)).trans (by rw [decide_eq_true_eq]; omega)) | omega), fun Hn_13 h40 => ?_⟩
              exact kont _ ((((h3.trans h32).trans h35).trans h37).trans h40)
            · refine ⟨_, rfl, ?_⟩
              refine ⟨_, rfl, ?_⟩
              refine ⟨_, rfl, ?_⟩
              refine ⟨_, _, rfl, rfl, (by walk_at "o2"), fun q_4 h_q_4 => ?_⟩
              refine ⟨_, rfl, ?_⟩
              refine ⟨_, _, rfl, rfl, (by walk_at "o2"), fun m_4 h_m_4 => ?_⟩
              refine ⟨_, _, rfl, rfl, ?_⟩
              refine ⟨_, rfl, fun l_rest_4 h_l_rest_4 => ?_⟩
              refine Ow.gnmS (σ' := [_, _, _, _, _, _, _, _]) rfl ?_
              have er := Ow.rest_of (n := number) (s := l_size) (by assumption) (by assumption) h_l_rest_4 h_l_size
              have en := Ow.near_of (kd := _) (n := number) (N := lo) (S := l_size) h_l_size hl hg (by omega) (by omega) (by omega) (by omega) (by omega)
              refine ⟨_, rfl, ?_⟩
              refine ⟨_, _, _, _, _, rfl, .inl ⟨rfl, rfl⟩, (h3 _ _ c0), rfl, ?_⟩
              refine ⟨_, rfl, ?_⟩
              refine ⟨_, _, ((Ow.Tf_Kind.plain kd_w)), _, rfl, (h3 _ _ c0), (by walk_at "o2"), fun b_7 h41 p_8 Hn_14 h42 h43 h44 => ?_⟩
              refine ⟨_, rfl, ?_⟩
              refine ⟨_, rfl, ?_⟩
              refine ⟨_, _, _, _, _, rfl, h44, (by first | exact er | exact en | exact (by assumption : _ = true ↔ ¬ (Ow.kl _ ≤ number ∧ number ≤ Ow.kg _)).mpr (by omega) | exact Bool.eq_iff_iff.mpr ((by assumption : _ = true ↔ ¬ (Ow.kl _ ≤ number ∧ number ≤ Ow.kg _)).trans (by rw [decide_eq_true_eq]; omega)) | omega), (by first | exact er | exact en | exact (by assumption : _ = true ↔ ¬ (Ow.kl _ ≤ number ∧ number ≤ Ow.kg _)).mpr (by omega) | exact Bool.eq_iff_iff.mpr ((by assumption : _ = true ↔ ¬ (Ow.kl _ ≤ number ∧ number ≤ Ow.kg _)).trans (by rw [decide_eq_true_eq]; omega)) | omega), fun Hn_15 h45 => ?_⟩
              refine ⟨_, rfl, ?_⟩
              refine iteT ?_
              refine ⟨_, rfl, ?_⟩
              refine ⟨_, _, _, _, _, rfl, .inl ⟨rfl, rfl⟩, (h45 _ _ (h42 _ _ (h3 _ _ c0))), rfl, ?_⟩
              refine ⟨_, rfl, ?_⟩
              refine ⟨_, _, ((Ow.Tf_Kind.plain kd_w)), _, rfl, (h45 _ _ (h42 _ _ (h3 _ _ c0))), (by walk_at "o2"), fun b_8 h46 p_9 Hn_16 h47 h48 h49 => ?_⟩
              refine ⟨_, rfl, ?_⟩
              refine ⟨_, rfl, ?_⟩
              refine ⟨_, _, _, _, _, rfl, h49, (by first | exact er | exact en | exact (by assumption : _ = true ↔ ¬ (Ow.kl _ ≤ number ∧ number ≤ Ow.kg _)).mpr (by omega) | exact Bool.eq_iff_iff.mpr ((by assumption : _ = true ↔ ¬ (Ow.kl _ ≤ number ∧ number ≤ Ow.kg _)).trans (by rw [decide_eq_true_eq]; omega)) | omega), (by first | exact er | exact en | exact (by assumption : _ = true ↔ ¬ (Ow.kl _ ≤ number ∧ number ≤ Ow.kg _)).mpr (by omega) | exact Bool.eq_iff_iff.mpr ((by assumption : _ = true ↔ ¬ (Ow.kl _ ≤ number ∧ number ≤ Ow.kg _)).trans (by rw [decide_eq_true_eq]; omega)) | omega), fun Hn_17 h50 => ?_⟩
              exact kont _ ((((h3.trans h42).trans h45).trans h47).trans h50)
        · refine ⟨_, rfl, ?_⟩
          refine ⟨_, rfl, ?_⟩
          refine ⟨_, _, _, _, rfl, rfl, (SqT.of h5), (by first | rfl | decide), ?_⟩
          refine ⟨_, _, rfl, rfl, ?_⟩
          refine ⟨_, rfl, ?_⟩
          refine Ow.ifd (fun h51 => ?_) (fun h51 => ?_)
          · refine ⟨_, rfl, ?_⟩
            refine ⟨_, _, _, _, rfl, rfl, (SqT.of h5), (by first | rfl | decide), ?_⟩
            refine ⟨_, rfl, ?_⟩
            refine ⟨_, _, rfl, rfl, ?_⟩
            refine ⟨_, rfl, ?_⟩
            refine Ow.ifd (fun h52 => ?_) (fun h52 => ?_)
            · refine ⟨_, rfl, ?_⟩
              refine ⟨_, rfl, ?_⟩
              refine ⟨_, _, rfl, rfl, ?_⟩
              refine ⟨_, rfl, fun l_nearest_3 h_l_nearest_3 => ?_⟩
              refine ⟨_, rfl, ?_⟩
              refine ⟨_, rfl, ?_⟩
              refine ⟨_, rfl, ?_⟩
              refine ⟨_, _, rfl, rfl, (by walk_at "o2"), fun q_5 h_q_5 => ?_⟩
              refine ⟨_, rfl, ?_⟩
              refine ⟨_, _, rfl, rfl, (by walk_at "o2"), fun m_5 h_m_5 => ?_⟩
              refine ⟨_, _, rfl, rfl, ?_⟩
              refine ⟨_, rfl, fun l_rest_5 h_l_rest_5 => ?_⟩
              refine Ow.gnmS (σ' := [_, _, _, _, _, _, _, _]) rfl ?_
              have er := Ow.rest_of (n := number) (s := l_size) (by assumption) (by assumption) h_l_rest_5 h_l_size
              have en := Ow.near_of (kd := _) (n := number) (N := l_nearest_3) (S := l_size) h_l_size hl hg (by omega) (by omega) (by omega) (by omega) (by omega)
              refine ⟨_, rfl, ?_⟩
              refine ⟨_, _, _, _, _, rfl, .inl ⟨rfl, rfl⟩, (h3 _ _ c0), rfl, ?_⟩
              refine ⟨_, rfl, ?_⟩
              refine ⟨_, _, ((Ow.Tf_Kind.plain kd_w)), _, rfl, (h3 _ _ c0), (by walk_at "o2"), fun b_9 h53 p_10 Hn_18 h54 h55 h56 => ?_⟩
              refine ⟨_, rfl, ?_⟩
              refine ⟨_, rfl, ?_⟩
              refine ⟨_, _, _, _, _, rfl, h56, (by first | exact er | exact en | exact (by assumption : _ = true ↔ ¬ (Ow.kl _ ≤ number ∧ number ≤ Ow.kg _)).mpr (by omega) | exact Bool.eq_iff_iff.mpr ((by assumption : _ = true ↔ ¬ (Ow.kl _ ≤ number ∧ number ≤ Ow.kg _)).trans (by rw [decide_eq_true_eq]; omega)) | omega), (by first | exact er | exact en | exact (by assumption : _ = true ↔ ¬ (Ow.kl _ ≤ number ∧ number ≤ Ow.kg _)).mpr (by omega) | exact Bool.eq_iff_iff.mpr ((by assumption : _ = true ↔ ¬ (Ow.kl _ ≤ number ∧ number ≤ Ow.kg _)).trans (by rw [decide_eq_true_eq]; omega)) | omega), fun Hn_19 h57 => ?_⟩
              refine ⟨_, rfl, ?_⟩
              refine iteT ?_
              refine ⟨_, rfl, ?_⟩
              refine ⟨_, _, _, _, _, rfl, .inl ⟨rfl, rfl⟩, (h57 _ _ (h54 _ _ (h3 _ _ c0))), rfl, ?_⟩
              refine ⟨_, rfl, ?_⟩
              refine ⟨_, _, ((Ow.Tf_Kind.plain kd_w)), _, rfl, (h57 _ _ (h54 _ _ (h3 _ _ c0))), (by walk_at "o2"), fun b_10 h58 p_11 Hn_20 h59 h60 h61 => ?_⟩
              refine ⟨_, rfl, ?_⟩
              refine ⟨_, rfl, ?_⟩
              refine ⟨_, _, _, _, _, rfl, h61, (by first | exact er | exact en | exact (by assumption : _ = true ↔ ¬ (Ow.kl _ ≤ number ∧ number ≤ Ow.kg _)).mpr (by omega) | exact Bool.eq_iff_iff.mpr ((by assumption : _ = true ↔ ¬ (Ow.kl _ ≤ number ∧ number ≤ Ow.kg _)).trans (by rw [decide_eq_true_eq]; omega)) | omega), (by first | exact er | exact en | exact (by assumption : _ = true ↔ ¬ (Ow.kl _ ≤ number ∧ number ≤ Ow.kg _)).mpr (by omega) | exact Bool.eq_iff_iff.mpr ((by assumption : _ = true ↔ ¬ (Ow.kl _ ≤ number ∧ number ≤ Ow.kg _)).trans (by rw [decide_eq_true_eq]; omega)) | omega), fun Hn_21 h62 => ?_⟩
              exact kont _ ((((h3.trans h54).trans h57).trans h59).trans h62)
            · refine ⟨_, rfl, ?_⟩
              refine ⟨_, rfl, ?_⟩
              refine ⟨_, rfl, ?_⟩
              refine ⟨_, _, rfl, rfl, (by walk_at "o2"), fun q_6 h_q_6 => ?_⟩
              refine ⟨_, rfl, ?_⟩
              refine ⟨_, _, rfl, rfl, (by walk_at "o2"), fun m_6 h_m_6 => ?_⟩
              refine ⟨_, _, rfl, rfl, ?_⟩
              refine ⟨_, rfl, fun l_rest_6 h_l_rest_6 => ?_⟩
              refine Ow.gnmS (σ' := [_, _, _, _, _, _, _, _]) rfl ?_
              have er := Ow.rest_of (n := number) (s := l_size) (by assumption) (by assumption) h_l_rest_6 h_l_size
              have en := Ow.near_of (kd := _) (n := number) (N := hi) (S := l_size) h_l_size hl hg (by omega) (by omega) (by omega) (by omega) (by omega)
              refine ⟨_, rfl, ?_⟩
              refine ⟨_, _, _, _, _, rfl, .inl ⟨rfl, rfl⟩, (h3 _ _ c0), rfl, ?_⟩
              refine ⟨_, rfl, ?_⟩
              refine ⟨_, _, ((Ow.Tf_Kind.plain kd_w)), _, rfl, (h3 _ _ c0), (by walk_at "o2"), fun b_11 h63 p_12 Hn_22 h64 h65 h66 => ?_⟩
              refine ⟨_, rfl, ?_⟩
              refine ⟨_, rfl, ?_⟩
              refine ⟨_, _, _, _, _, rfl, h66, (by first | exact er | exact en | exact (by assumption : _ = true ↔ ¬ (Ow.kl _ ≤ number ∧ number ≤ Ow.kg _)).mpr (by omega) | exact Bool.eq_iff_iff.mpr ((by assumption : _ = true ↔ ¬ (Ow.kl _ ≤ number ∧ number ≤ Ow.kg _)).trans (by rw [decide_eq_true_eq]; omega)) | omega), (by first | exact er | exact en | exact (by assumption : _ = true ↔ ¬ (Ow.kl _ ≤ number ∧ number ≤ Ow.kg _)).mpr (by omega) | exact Bool.eq_iff_iff.mpr ((by assumption : _ = true ↔ ¬ (Ow.kl _ ≤ number ∧ number ≤ Ow.kg _)).trans (by rw [decide_eq_true_eq]; omega)) | omega), fun Hn_23 h67 => ?_⟩
              refine ⟨_, rfl, ?_⟩
              refine iteT ?_
              refine ⟨_, rfl, ?_⟩
              refine ⟨_, _, _, _, _, rfl, .inl ⟨rfl, rfl⟩, (h67 _ _ (h64 _ _ (h3 _ _ c0))), rfl, ?_⟩
              refine ⟨_, rfl, ?_⟩
              refine ⟨_, _, ((Ow.Tf_Kind.plain kd_w)), _, rfl, (h67 _ _ (h64 _ _ (h3 _ _ c0))), (by walk_at "o2"), fun b_12 h68 p_13 Hn_24 h69 h70 h71 => ?_⟩
              refine ⟨_, rfl, ?_⟩
              refine ⟨_, rfl, ?_⟩
              refine ⟨_, _, _, _, _, rfl, h71, (by first | exact er | exact en | exact (by assumption : _ = true ↔ ¬ (Ow.kl _ ≤ number ∧ number ≤ Ow.kg _)).mpr (by omega) | exact Bool.eq_iff_iff.mpr ((by assumption : _ = true ↔ ¬ (Ow.kl _ ≤ number ∧ number ≤ Ow.kg _)).trans (by rw [decide_eq_true_eq]; omega)) | omega), (by first | exact er | exact en | exact (by assumption : _ = true ↔ ¬ (Ow.kl _ ≤ number ∧ number ≤ Ow.kg _)).mpr (by omega) | exact Bool.eq_iff_iff.mpr ((by assumption : _ = true ↔ ¬ (Ow.kl _ ≤ number ∧ number ≤ Ow.kg _)).trans (by rw [decide_eq_true_eq]; omega)) | omega), fun Hn_25 h72 => ?_⟩
              exact kont _ ((((h3.trans h64).trans h67).trans h69).trans h72)
          · refine ⟨_, rfl, ?_⟩
            refine ⟨_, _, rfl, rfl, ?_⟩
            refine ⟨_, rfl, ?_⟩
            refine Ow.ifd (fun h73 => ?_) (fun h73 => ?_)
            · refine ⟨_, rfl, ?_⟩
              refine ⟨_, rfl, ?_⟩
              refine ⟨_, _, rfl, rfl, ?_⟩
              refine ⟨_, rfl, fun l_nearest_4 h_l_nearest_4 => ?_⟩
              refine ⟨_, rfl, ?_⟩
              refine ⟨_, rfl, ?_⟩
              refine ⟨_, rfl, ?_⟩
              refine ⟨_, _, rfl, rfl, (by walk_at "o2"), fun q_7 h_q_7 => ?_⟩
              refine ⟨_, rfl, ?_⟩
              refine ⟨_, _, rfl, rfl, (by walk_at "o2"), fun m_7 h_m_7 => ?_⟩
              refine ⟨_, _, rfl, rfl, ?_⟩
              refine ⟨_, rfl, fun l_rest_7 h_l_rest_7 => ?_⟩
              refine Ow.gnmS (σ' := [_, _, _, _, _, _, _, _]) rfl ?_
              have er := Ow.rest_of (n := number) (s := l_size) (by assumption) (by assumption) h_l_rest_7 h_l_size
              have en := Ow.near_of (kd := _) (n := number) (N := l_nearest_4) (S := l_size) h_l_size hl hg (by omega) (by omega) (by omega) (by omega) (by omega)
              refine ⟨_, rfl, ?_⟩
              refine ⟨_, _, _, _, _, rfl, .inl ⟨rfl, rfl⟩, (h3 _ _ c0), rfl, ?_⟩
              refine ⟨_, rfl, ?_⟩
              refine ⟨_, _, ((Ow.Tf_Kind.plain kd_w)), _, rfl, (h3 _ _ c0), (by walk_at "o2"), fun b_13 h74 p_14 Hn_26 h75 h76 h77 => ?_⟩
              refine ⟨_, rfl, ?_⟩
              refine ⟨_, rfl, ?_⟩
              refine ⟨_, _, _, _, _, rfl, h77, (by first | exact er | exact en | exact (by assumption : _ = true ↔ ¬ (Ow.kl _ ≤ number ∧ number ≤ Ow.kg _)).mpr (by omega) | exact Bool.eq_iff_iff.mpr ((by assumption : _ = true ↔ ¬ (Ow.kl _ ≤ number ∧ number ≤ Ow.kg _)).trans (by rw [decide_eq_true_eq]; omega)) | omega), (by first | exact er | exact en | exact (by assumption : _ = true ↔ ¬ (Ow.kl _ ≤ number ∧ number ≤ Ow.kg _)).mpr (by omega) | exact Bool.eq_iff_iff.mpr ((by assumption : _ = true ↔ ¬ (Ow.kl _ ≤ number ∧ number ≤ Ow.kg _)).trans (by rw [decide_eq_true_eq]; omega)) | omega), fun Hn_27 h78 => ?_⟩
              refine ⟨_, rfl, ?_⟩
              refine iteT ?_
              refine ⟨_, rfl, ?_⟩
              refine ⟨_, _, _, _, _, rfl, .inl ⟨rfl, rfl⟩, (h78 _ _ (h75 _ _ (h3 _ _ c0))), rfl, ?_⟩
              refine ⟨_, rfl, ?_⟩
              refine ⟨_, _, ((Ow.Tf_Kind.plain kd_w)), _, rfl, (h78 _ _ (h75 _ _ (h3 _ _ c0))), (by walk_at "o2"), fun b_14 h79 p_15 Hn_28 h80 h81 h82 => ?_⟩
              refine ⟨_, rfl, ?_⟩
              refine ⟨_, rfl, ?_⟩
              refine ⟨_, _, _, _, _, rfl, h82, (by first | exact er | exact en | exact (by assumption : _ = true ↔ ¬ (Ow.kl _ ≤ number ∧ number ≤ Ow.kg _)).mpr (by omega) | exact Bool.eq_iff_iff.mpr ((by assumption : _ = true ↔ ¬ (Ow.kl _ ≤ number ∧ number ≤ Ow.kg _)).trans (by rw [decide_eq_true_eq]; omega)) | omega), (by first | exact er | exact en | exact (by assumption : _ = true ↔ ¬ (Ow.kl _ ≤ number ∧ number ≤ Ow.kg _)).mpr (by omega) | exact Bool.eq_iff_iff.mpr ((by assumption : _ = true ↔ ¬ (Ow.kl _ ≤ number ∧ number ≤ Ow.kg _)).trans (by rw [decide_eq_true_eq]; omega)) | omega), fun Hn_29 h83 => ?_⟩
              exact kont _ ((((h3.trans h75).trans h78).trans h80).trans h83)
            · refine ⟨_, rfl, ?_⟩
              refine ⟨_, rfl, ?_⟩
              refine ⟨_, rfl, ?_⟩
              refine ⟨_, _, rfl, rfl, (by walk_at "o2"), fun q_8 h_q_8 => ?_⟩
              refine ⟨_, rfl, ?_⟩
              refine ⟨_, _, rfl, rfl, (by walk_at "o2"), fun m_8 h_m_8 => ?_⟩
              refine ⟨_, _, rfl, rfl, ?_⟩
              refine ⟨_, rfl, fun l_rest_8 h_l_rest_8 => ?_⟩
              refine Ow.gnmS (σ' := [_, _, _, _, _, _, _, _]) rfl ?_
              have er := Ow.rest_of (n := number) (s := l_size) (by assumption) (by assumption) h_l_rest_8 h_l_size
              have en := Ow.near_of (kd := _) (n := number) (N := number) (S := l_size) h_l_size hl hg (by omega) (by omega) (by omega) (by omega) (by omega)
              refine ⟨_, rfl, ?_⟩
              refine ⟨_, _, _, _, _, rfl, .inl ⟨rfl, rfl⟩, (h3 _ _ c0), rfl, ?_⟩
              refine ⟨_, rfl, ?_⟩
              refine ⟨_, _, ((Ow.Tf_Kind.plain kd_w)), _, rfl, (h3 _ _ c0), (by walk_at "o2"), fun b_15 h84 p_16 Hn_30 h85 h86 h87 => ?_⟩
              refine ⟨_, rfl, ?_⟩
              refine ⟨_, rfl, ?_⟩
              refine ⟨_, _, _, _, _, rfl, h87, (by first | exact er | exact en | exact (by assumption : _ = true ↔ ¬ (Ow.kl _ ≤ number ∧ number ≤ Ow.kg _)).mpr (by omega) | exact Bool.eq_iff_iff.mpr ((by assumption : _ = true ↔ ¬ (Ow.kl _ ≤ number ∧ number ≤ Ow.kg _)).trans (by rw [decide_eq_true_eq]; omega)) | omega), (by first | exact er | exact en | exact (by assumption : _ = true ↔ ¬ (Ow.kl _ ≤ number ∧ number ≤ Ow.kg _)).mpr (by omega) | exact Bool.eq_iff_iff.mpr ((by assumption : _ = true ↔ ¬ (Ow.kl _ ≤ number ∧ number ≤ Ow.kg _)).trans (by rw [decide_eq_true_eq]; omega)) | omega), fun Hn_31 h88 => ?_⟩
              refine ⟨_, rfl, ?_⟩
              refine iteT ?_
              refine ⟨_, rfl, ?_⟩
              refine ⟨_, _, _, _, _, rfl, .inl ⟨rfl, rfl⟩, (h88 _ _ (h85 _ _ (h3 _ _ c0))), rfl, ?_⟩
              refine ⟨_, rfl, ?_⟩
              refine ⟨_, _, ((Ow.Tf_Kind.plain kd_w)), _, rfl, (h88 _ _ (h85 _ _ (h3 _ _ c0))), (by walk_at "o2"), fun b_16 h89 p_17 Hn_32 h90 h91 h92 => ?_⟩
              refine ⟨_, rfl, ?_⟩
              refine ⟨_, rfl, ?_⟩
              refine ⟨_, _, _, _, _, rfl, h92, (by first | exact er | exact en | exact (by assumption : _ = true ↔ ¬ (Ow.kl _ ≤ number ∧ number ≤ Ow.kg _)).mpr (by omega) | exact Bool.eq_iff_iff.mpr ((by assumption : _ = true ↔ ¬ (Ow.kl _ ≤ number ∧ number ≤ Ow.kg _)).trans (by rw [decide_eq_true_eq]; omega)) | omega), (by first | exact er | exact en | exact (by assumption : _ = true ↔ ¬ (Ow.kl _ ≤ number ∧ number ≤ Ow.kg _)).mpr (by omega) | exact Bool.eq_iff_iff.mpr ((by assumption : _ = true ↔ ¬ (Ow.kl _ ≤ number ∧ number ≤ Ow.kg _)).trans (by rw [decide_eq_true_eq]; omega)) | omega), fun Hn_33 h93 => ?_⟩
              exact kont _ ((((h3.trans h85).trans h88).trans h90).trans h93)
      · refine ⟨_, rfl, ?_⟩
        refine ⟨_, rfl, ?_⟩
        refine ⟨_, _, _, _, rfl, rfl, (SqT.of h5), (by first | rfl | decide), ?_⟩
        refine ⟨_, _, rfl, rfl, ?_⟩
        refine Ow.gnmS (σ' := [_, _, _, _, _, _, _, _]) rfl ?_
        refine ⟨_, rfl, ?_⟩
        refine Ow.gnmS (σ' := [_, _, _, _, _, _, _, _]) rfl ?_
        refine ⟨_, rfl, ?_⟩
        refine ⟨_, rfl, ?_⟩
        refine ⟨_, _, _, _, rfl, rfl, (SqT.of h5), (by first | rfl | decide), ?_⟩
        refine ⟨_, _, rfl, rfl, ?_⟩
        refine ⟨_, rfl, ?_⟩
        refine Ow.ifd (fun h94 => ?_) (fun h94 => ?_)
        · refine ⟨_, rfl, ?_⟩
          refine ⟨_, _, _, _, rfl, rfl, (SqT.of h5), (by first | rfl | decide), ?_⟩
          refine ⟨_, rfl, ?_⟩
          refine ⟨_, rfl, ?_⟩
          refine ⟨_, _, _, _, rfl, rfl, (SqT.of h5), (by first | rfl | decide), ?_⟩
          refine ⟨_, _, rfl, rfl, ?_⟩
          refine ⟨_, rfl, ?_⟩
          refine Ow.ifd (fun h95 => ?_) (fun h95 => ?_)
          · refine ⟨_, rfl, ?_⟩
            refine ⟨_, _, _, _, rfl, rfl, (SqT.of h5), (by first | rfl | decide), ?_⟩
            refine ⟨_, rfl, ?_⟩
            refine ⟨_, _, rfl, rfl, ?_⟩
            refine ⟨_, rfl, ?_⟩
            refine Ow.ifd (fun h96 => ?_) (fun h96 => ?_)
            · refine ⟨_, rfl, ?_⟩
              refine ⟨_, rfl, ?_⟩
              refine ⟨_, _, rfl, rfl, ?_⟩
              refine ⟨_, rfl, fun l_nearest_5 h_l_nearest_5 => ?_⟩
              refine ⟨_, rfl, ?_⟩
              refine ⟨_, rfl, ?_⟩
              refine ⟨_, rfl, ?_⟩
              refine ⟨_, _, rfl, rfl, (by walk_at "o2"), fun q_9 h_q_9 => ?_⟩
              refine ⟨_, rfl, ?_⟩
              refine ⟨_, _, rfl, rfl, (by walk_at "o2"), fun m_9 h_m_9 => ?_⟩
              refine ⟨_, _, rfl, rfl, ?_⟩
              refine ⟨_, rfl, fun l_rest_9 h_l_rest_9 => ?_⟩
              refine Ow.gnmS (σ' := [_, _, _, _, _, _, _, _]) rfl ?_
              have er := Ow.rest_of (n := number) (s := l_size) (by assumption) (by assumption) h_l_rest_9 h_l_size
              have en := Ow.near_of (kd := _) (n := number) (N := l_nearest_5) (S := l_size) h_l_size hl hg (by omega) (by omega) (by omega) (by omega) (by omega)
              refine ⟨_, rfl, ?_⟩
              refine ⟨_, _, _, _, _, rfl, .inl ⟨rfl, rfl⟩, (h3 _ _ c0), rfl, ?_⟩
              refine ⟨_, rfl, ?_⟩
              refine ⟨_, _, ((Ow.Tf_Kind.plain kd_w)), _, rfl, (h3 _ _ c0), (by walk_at "o2"), fun b_17 h97 p_18 Hn_34 h98 h99 h100 => ?_⟩
              refine ⟨_, rfl, ?_⟩
              refine ⟨_, rfl, ?_⟩
              refine ⟨_, _, _, _, _, rfl, h100, (by first | exact er | exact en | exact (by assumption : _ = true ↔ ¬ (Ow.kl _ ≤ number ∧ number ≤ Ow.kg _)).mpr (by omega) | exact Bool.eq_iff_iff.mpr ((by assumption : _ = true ↔ ¬ (Ow.kl _ ≤ number ∧ number ≤ Ow.kg _)).trans (by rw [decide_eq_true_eq]; omega)) | omega), (by first | exact er | exact en | exact (by assumption : _ = true ↔ ¬ (Ow.kl _ ≤ number ∧ number ≤ Ow.kg _)).mpr (by omega) | exact Bool.eq_iff_iff.mpr ((by assumption : _ = true ↔ ¬ (Ow.kl _ ≤ number ∧ number ≤ Ow.kg _)).trans (by rw [decide_eq_true_eq]; omega)) | omega), fun Hn_35 h101 => ?_⟩
              refine ⟨_, rfl, ?_⟩
              refine iteT ?_
              refine ⟨_, rfl, ?_⟩
              refine ⟨_, _, _, _, _, rfl, .inl ⟨rfl, rfl⟩, (h101 _ _ (h98 _ _ (h3 _ _ c0))), rfl, ?_⟩
              refine ⟨_, rfl, ?_⟩
              refine ⟨_, _, ((Ow.Tf_Kind.plain kd_w)), _, rfl, (h101 _ _ (h98 _ _ (h3 _ _ c0))), (by walk_at "o2"), fun b_18 h102 p_19 Hn_36 h103 h104 h105 => ?_⟩
              refine ⟨_, rfl, ?_⟩
              refine ⟨_, rfl, ?_⟩
              refine ⟨_, _, _, _, _, rfl, h105, (by first | exact er | exact en | exact (by assumption : _ = true ↔ ¬ (Ow.kl _ ≤ number ∧ number ≤ Ow.kg _)).mpr (by omega) | exact Bool.eq_iff_iff.mpr ((by assumption : _ = true ↔ ¬ (Ow.kl _ ≤ number ∧ number ≤ Ow.kg _)).trans (by rw [decide_eq_true_eq]; omega)) | omega), (by first | exact er | exact en | exact (by assumption : _ = true ↔ ¬ (Ow.kl _ ≤ number ∧ number ≤ Ow.kg _)).mpr (by omega) | exact Bool.eq_iff_iff.mpr ((by assumption : _ = true ↔ ¬ (Ow.kl _ ≤ number ∧ number ≤ Ow.kg _)).trans (by rw [decide_eq_true_eq]; omega)) | omega), fun Hn_37 h106 => ?_⟩
              exact kont _ ((((h3.trans h98).trans h101).trans h103).trans h106)
            · refine ⟨_, rfl, ?_⟩
              refine ⟨_, rfl, ?_⟩
              refine ⟨_, rfl, ?_⟩
              refine ⟨_, _, rfl, rfl, (by walk_at "o2"), fun q_10 h_q_10 => ?_⟩
              refine ⟨_, rfl, ?_⟩
              refine ⟨_, _, rfl, rfl, (by walk_at "o2"), fun m_10 h_m_10 => ?_⟩
              refine ⟨_, _, rfl, rfl, ?_⟩
              refine ⟨_, rfl, fun l_rest_10 h_l_rest_10 => ?_⟩
              refine Ow.gnmS (σ' := [_, _, _, _, _, _, _, _]) rfl ?_
              have er := Ow.rest_of (n := number) (s := l_size) (by assumption) (by assumption) h_l_rest_10 h_l_size
              have en := Ow.near_of (kd := _) (n := number) (N := hi) (S := l_size) h_l_size hl hg (by omega) (by omega) (by omega) (by omega) (by omega)
              refine ⟨_, rfl, ?_⟩
              refine ⟨_, _, _, _, _, rfl, .inl ⟨rfl, rfl⟩, (h3 _ _ c0), rfl, ?_⟩
              refine ⟨_, rfl, ?_⟩
              refine ⟨_, _, ((Ow.Tf_Kind.plain kd_w)), _, rfl, (h3 _ _ c0), (by walk_at "o2"), fun b_19 h107 p_20 Hn_38 h108 h109 h110 => ?_⟩
              refine ⟨_, rfl, ?_⟩
              refine ⟨_, rfl, ?_⟩
              refine ⟨_, _, _, _, _, rfl, h110, (by first | exact er | exact en | exact (by assumption : _ = true ↔ ¬ (Ow.kl _ ≤ number ∧ number ≤ Ow.kg _)).mpr (by omega) | exact Bool.eq_iff_iff.mpr ((by assumption : _ = true ↔ ¬ (Ow.kl _ ≤ number ∧ number ≤ Ow.kg _)).trans (by rw [decide_eq_true_eq]; omega)) | omega), (by first | exact er | exact en | exact (by assumption : _ = true ↔ ¬ (Ow.kl _ ≤ number ∧ number ≤ Ow.kg _)).mpr (by omega) | exact Bool.eq_iff_iff.mpr ((by assumption : _ = true ↔ ¬ (Ow.kl _ ≤ number ∧ number ≤ Ow.kg _)).trans (by rw [decide_eq_true_eq]; omega)) | omega), fun Hn_39 h111 => ?_⟩
              refine ⟨_, rfl, ?_⟩
              refine iteT ?_
              refine ⟨_, rfl, ?_⟩
              refine ⟨_, _, _, _, _, rfl, .inl ⟨rfl, rfl⟩, (h111 _ _ (h108 _ _ (h3 _ _ c0))), rfl, ?_⟩
              refine ⟨_, rfl, ?_⟩
              refine ⟨_, _, ((Ow.Tf_Kind.plain kd_w)), _, rfl, (h111 _ _ (h108 _ _ (h3 _ _ c0))), (by walk_at "o2"), fun b_20 h112 p_21 Hn_40 h113 h114 h115 => ?_⟩
              refine ⟨_, rfl, ?_⟩
              refine ⟨_, rfl, ?_⟩
              refine ⟨_, _, _, _, _, rfl, h115, (by first | exact er | exact en | exact (by assumption : _ = true ↔ ¬ (Ow.kl _ ≤ number ∧ number ≤ Ow.kg _)).mpr (by omega) | exact Bool.eq_iff_iff.mpr ((by assumption : _ = true ↔ ¬ (Ow.kl _ ≤ number ∧ number ≤ Ow.kg _)).trans (by rw [decide_eq_true_eq]; omega)) | omega), (by first | exact er | exact en | exact (by assumption : _ = true ↔ ¬ (Ow.kl _ ≤ number ∧ number ≤ Ow.kg _)).mpr (by omega) | exact Bool.eq_iff_iff.mpr ((by assumption : _ = true ↔ ¬ (Ow.kl _ ≤ number ∧ number ≤ Ow.kg _)).trans (by rw [decide_eq_true_eq]; omega)) | omega), fun Hn_41 h116 => ?_⟩
              exact kont _ ((((h3.trans h108).trans h111).trans h113).trans h116)
          · refine ⟨_, rfl, ?_⟩
            refine ⟨_, _, rfl, rfl, ?_⟩
            refine ⟨_, rfl, ?_⟩
            refine Ow.ifd (fun h117 => ?_) (fun h117 => ?_)
            · refine ⟨_, rfl, ?_⟩
              refine ⟨_, rfl, ?_⟩
              refine ⟨_, _, rfl, rfl, ?_⟩
              refine ⟨_, rfl, fun l_nearest_6 h_l_nearest_6 => ?_⟩
              refine ⟨_, rfl, ?_⟩
              refine ⟨_, rfl, ?_⟩
              refine ⟨_, rfl, ?_⟩
              refine ⟨_, _, rfl, rfl, (by walk_at "o2"), fun q_11 h_q_11 => ?_⟩
              refine ⟨_, rfl, ?_⟩
              refine ⟨_, _, rfl, rfl, (by walk_at "o2"), fun m_11 h_m_11 => ?_⟩
              refine ⟨_, _, rfl, rfl, ?_⟩
              refine ⟨_, rfl, fun l_rest_11 h_l_rest_11 => ?_⟩
              refine Ow.gnmS (σ' := [_, _, _, _, _, _, _, _]) rfl ?_
              have er := Ow.rest_of (n := number) (s := l_size) (by assumption) (by assumption) h_l_rest_11 h_l_size
              have en := Ow.near_of (kd := _) (n := number) (N := l_nearest_6) (S := l_size) h_l_size hl hg (by omega) (by omega) (by omega) (by omega) (by omega)
              refine ⟨_, rfl, ?_⟩
              refine ⟨_, _, _, _, _, rfl, .inl ⟨rfl, rfl⟩, (h3 _ _ c0), rfl, ?_⟩
              refine ⟨_, rfl, ?_⟩
              refine ⟨_, _, ((Ow.Tf_Kind.plain kd_w)), _, rfl, (h3 _ _ c0), (by walk_at "o2"), fun b_21 h118 p_22 Hn_42 h119 h120 h121 => ?_⟩
              refine ⟨_, rfl, ?_⟩
              refine ⟨_, rfl, ?_⟩
              refine ⟨_, _, _, _, _, rfl, h121, (by first | exact er | exact en | exact (by assumption : _ = true ↔ ¬ (Ow.kl _ ≤ number ∧ number ≤ Ow.kg _)).mpr (by omega) | exact Bool.eq_iff_iff.mpr ((by assumption : _ = true ↔ ¬ (Ow.kl _ ≤ number ∧ number ≤ Ow.kg _)).trans (by rw [decide_eq_true_eq]; omega)) | omega), (by first | exact er | exact en | exact (by assumption : _ = true ↔ ¬ (Ow.kl _ ≤ number ∧ number ≤ Ow.kg _)).mpr (by omega) | exact Bool.eq_iff_iff.mpr ((by assumption : _ = true ↔ ¬ (Ow.kl _ ≤ number ∧ number ≤ Ow.kg _)).trans (by rw [decide_eq_true_eq]; omega)) | omega), fun Hn_43 h122 => ?_⟩
              refine ⟨_, rfl, ?_⟩
              refine iteT ?_
              refine ⟨_, rfl, ?_⟩
              refine ⟨_, _, _, _, _, rfl, .inl ⟨rfl, rfl⟩, (h122 _ _ (h119 _ _ (h3 _ _ c0))), rfl, ?_⟩
              refine ⟨_, rfl, ?_⟩
              refine ⟨_, _, ((Ow.Tf_Kind.plain kd_w)), _, rfl, (h122 _ _ (h119 _ _ (h3 _ _ c0))), (by walk_at "o2"), fun b_22 h123 p_23 Hn_44 h124 h125 h126 => ?_⟩
              refine ⟨_, rfl, ?_⟩
              refine ⟨_, rfl, ?_⟩
              refine ⟨_, _, _, _, _, rfl, h126, (by first | exact er | exact en | exact (by assumption : _ = true ↔ ¬ (Ow.kl _ ≤ number ∧ number ≤ Ow.kg _)).mpr (by omega) | exact Bool.eq_iff_iff.mpr ((by assumption : _ = true ↔ ¬ (Ow.kl _ ≤ number ∧ number ≤ Ow.kg _)).trans (by rw [decide_eq_true_eq]; omega)) | omega), (by first | exact er | exact en | exact (by assumption : _ = true ↔ ¬ (Ow.kl _ ≤ number ∧ number ≤ Ow.kg _)).mpr (by omega) | exact Bool.eq_iff_iff.mpr ((by assumption : _ = true ↔ ¬ (Ow.kl _ ≤ number ∧ number ≤ Ow.kg _)).trans (by rw [decide_eq_true_eq]; omega)) | omega), fun Hn_45 h127 => ?_⟩
              exact kont _ ((((h3.trans h119).trans h122).trans h124).trans h127)
            · refine ⟨_, rfl, ?_⟩
              refine ⟨_, rfl, ?_⟩
              refine ⟨_, rfl, ?_⟩
              refine ⟨_, _, rfl, rfl, (by walk_at "o2"), fun q_12 h_q_12 => ?_⟩
              refine ⟨_, rfl, ?_⟩
              refine ⟨_, _, rfl, rfl, (by walk_at "o2"), fun m_12 h_m_12 => ?_⟩
              refine ⟨_, _, rfl, rfl, ?_⟩
              refine ⟨_, rfl, fun l_rest_12 h_l_rest_12 => ?_⟩
              refine Ow.gnmS (σ' := [_, _, _, _, _, _, _, _]) rfl ?_
              have er := Ow.rest_of (n := number) (s := l_size) (by assumption) (by assumption) h_l_rest_12 h_l_size
              have en := Ow.near_of (kd := _) (n := number) (N := lo) (S := l_size) h_l_size hl hg (by omega) (by omega) (by omega) (by omega) (by omega)
              refine ⟨_, rfl, ?_⟩
              refine ⟨_, _, _, _, _, rfl, .inl ⟨rfl, rfl⟩, (h3 _ _ c0), rfl, ?_⟩
              refine ⟨_, rfl, ?_⟩
              refine ⟨_, _, ((Ow.Tf_Kind.plain kd_w)), _, rfl, (h3 _ _ c0), (by walk_at "o2"), fun b_23 h128 p_24 Hn_46 h129 h130 h131 => ?_⟩
              refine ⟨_, rfl, ?_⟩
              refine ⟨_, rfl, ?_⟩
              refine ⟨_, _, _, _, _, rfl, h131, (by first | exact er | exact en | exact (by assumption : _ = true ↔ ¬ (Ow.kl _ ≤ number ∧ number ≤ Ow.kg _)).mpr (by omega) | exact Bool.eq_iff_iff.mpr ((by assumption : _ = true ↔ ¬ (Ow.kl _ ≤ number ∧ number ≤ Ow.kg _)).trans (by rw [decide_eq_true_eq]; omega)) | omega), (by first | exact er | exact en | exact (by assumption : _ = true ↔ ¬ (Ow.kl _ ≤ number ∧ number ≤ Ow.kg _)).mpr (by omega) | exact Bool.eq_iff_iff.mpr ((by assumption : _ = true ↔ ¬ (Ow.kl _ ≤ number ∧ number ≤ Ow.kg _)).trans (by rw [decide_eq_true_eq]; omega)) | omega), fun Hn_47 h132 => ?_⟩
              refine ⟨_, rfl, ?_⟩
              refine iteT ?_
              refine ⟨_, rfl, ?_⟩
              refine ⟨_, _, _, _, _, rfl, .inl ⟨rfl, rfl⟩, (h132 _ _ (h129 _ _ (h3 _ _ c0))), rfl, ?_⟩
              refine ⟨_, rfl, ?_⟩
              refine ⟨_, _, ((Ow.Tf_Kind.plain kd_w)), _, rfl, (h132 _ _ (h129 _ _ (h3 _ _ c0))), (by walk_at "o2"), fun b_24 h133 p_25 Hn_48 h134 h135 h136 => ?_⟩
              refine ⟨_, rfl, ?_⟩
              refine ⟨_, rfl, ?_⟩
              refine ⟨_, _, _, _, _, rfl, h136, (by first | exact er | exact en | exact (by assumption : _ = true ↔ ¬ (Ow.kl _ ≤ number ∧ number ≤ Ow.kg _)).mpr (by omega) | exact Bool.eq_iff_iff.mpr ((by assumption : _ = true ↔ ¬ (Ow.kl _ ≤ number ∧ number ≤ Ow.kg _)).trans (by rw [decide_eq_true_eq]; omega)) | omega), (by first | exact er | exact en | exact (by assumption : _ = true ↔ ¬ (Ow.kl _ ≤ number ∧ number ≤ Ow.kg _)).mpr (by omega) | exact Bool.eq_iff_iff.mpr ((by assumption : _ = true ↔ ¬ (Ow.kl _ ≤ number ∧ number ≤ Ow.kg _)).trans (by rw [decide_eq_true_eq]; omega)) | omega), fun Hn_49 h137 => ?_⟩
              exact kont _ ((((h3.trans h129).trans h132).trans h134).trans h137)
        · refine ⟨_, rfl, ?_⟩
          refine ⟨_, rfl, ?_⟩
          refine ⟨_, _, _, _, rfl, rfl, (SqT.of h5), (by first | rfl | decide), ?_⟩
          refine ⟨_, _, rfl, rfl, ?_⟩
          refine ⟨_, rfl, ?_⟩
          refine Ow.ifd (fun h138 => ?_) (fun h138 => ?_)
          · refine ⟨_, rfl, ?_⟩
            refine ⟨_, _, _, _, rfl, rfl, (SqT.of h5), (by first | rfl | decide), ?_⟩
            refine ⟨_, rfl, ?_⟩
            refine ⟨_, _, rfl, rfl, ?_⟩
            refine ⟨_, rfl, ?_⟩
            refine Ow.ifd (fun h139 => ?_) (fun h139 => ?_)
            · refine ⟨_, rfl, ?_⟩
              refine ⟨_, rfl, ?_⟩
              refine ⟨_, _, rfl, rfl, ?_⟩
              refine ⟨_, rfl, fun l_nearest_7 h_l_nearest_7 => ?_⟩
              refine ⟨_, rfl, ?_⟩
              refine ⟨_, rfl, ?_⟩
              refine ⟨_, rfl, ?_⟩
              refine ⟨_, _, rfl, rfl, (by walk_at "o2"), fun q_13 h_q_13 => ?_⟩
              refine ⟨_, rfl, ?_⟩
              refine ⟨_, _, rfl, rfl, (by walk_at "o2"), fun m_13 h_m_13 => ?_⟩
              refine ⟨_, _, rfl, rfl, ?_⟩
              refine ⟨_, rfl, fun l_rest_13 h_l_rest_13 => ?_⟩
              refine Ow.gnmS (σ' := [_, _, _, _, _, _, _, _]) rfl ?_
              have er := Ow.rest_of (n := number) (s := l_size) (by assumption) (by assumption) h_l_rest_13 h_l_size
              have en := Ow.near_of (kd := _) (n := number) (N := l_nearest_7) (S := l_size) h_l_size hl hg (by omega) (by omega) (by omega) (by omega) (by omega)
              refine ⟨_, rfl, ?_⟩
              refine ⟨_, _, _, _, _, rfl, .inl ⟨rfl, rfl⟩, (h3 _ _ c0), rfl, ?_⟩
              refine ⟨_, rfl, ?_⟩
              refine ⟨_, _, ((Ow.Tf_Kind.plain kd_w)), _, rfl, (h3 _ _ c0), (by walk_at "o2"), fun b_25 h140 p_26 Hn_50 h141 h142 h143 => ?_⟩
              refine ⟨_, rfl, ?_⟩
              refine ⟨_, rfl, ?_⟩
              refine ⟨_, _, _, _, _, rfl, h143, (by first | exact er | exact en | exact (by assumption : _ = true ↔ ¬ (Ow.kl _ ≤ number ∧ number ≤ Ow.kg _)).mpr (by omega) | exact Bool.eq_iff_iff.mpr ((by assumption : _ = true ↔ ¬ (Ow.kl _ ≤ number ∧ number ≤ Ow.kg _)).trans (by rw [decide_eq_true_eq]; omega)) | omega), (by first | exact er | exact en | exact (by assumption : _ = true ↔ ¬ (Ow.kl _ ≤ number ∧ number ≤ Ow.kg _)).mpr (by omega) | exact Bool.eq_iff_iff.mpr ((by assumption : _ = true ↔ ¬ (Ow.kl _ ≤ number ∧ number ≤ Ow.kg _)).trans (by rw [decide_eq_true_eq]; omega)) | omega), fun Hn_51 h144 => ?_⟩
              refine ⟨_, rfl, ?_⟩
              refine iteT ?_
              refine ⟨_, rfl, ?_⟩
              refine ⟨_, _, _, _, _, rfl, .inl ⟨rfl, rfl⟩, (h144 _ _ (h141 _ _ (h3 _ _ c0))), rfl, ?_⟩
              refine ⟨_, rfl, ?_⟩
              refine ⟨_, _, ((Ow.Tf_Kind.plain kd_w)), _, rfl, (h144 _ _ (h141 _ _ (h3 _ _ c0))), (by walk_at "o2"), fun b_26 h145 p_27 Hn_52 h146 h147 h148 => ?_⟩
              refine ⟨_, rfl, ?_⟩
              refine ⟨_, rfl, ?_⟩
              refine ⟨_, _, _, _, _, rfl, h148, (by first | exact er | exact en | exact (by assumption : _ = true ↔ ¬ (Ow.kl _ ≤ number ∧ number ≤ Ow.kg _)).mpr (by omega) | exact Bool.eq_iff_iff.mpr ((by assumption : _ = true ↔ ¬ (Ow.kl _ ≤ number ∧ number ≤ Ow.kg _)).trans (by rw [decide_eq_true_eq]; omega)) | omega), (by first | exact er | exact en | exact (by assumption : _ = true ↔ ¬ (Ow.kl _ ≤ number ∧ number ≤ Ow.kg _)).mpr (by omega) | exact Bool.eq_iff_iff.mpr ((by assumption : _ = true ↔ ¬ (Ow.kl _ ≤ number ∧ number ≤ Ow.kg _)).trans (by rw [decide_eq_true_eq]; omega)) | omega), fun Hn_53 h149 => ?_⟩
              exact kont _ ((((h3.trans h141).trans h144).trans h146).trans h149)
            · refine ⟨_, rfl, ?_⟩
              refine ⟨_, rfl, ?_⟩
              refine ⟨_, rfl, ?_⟩
              refine ⟨_, _, rfl, rfl, (by walk_at "o2"), fun q_14 h_q_14 => ?_⟩
              refine ⟨_, rfl, ?_⟩
              refine ⟨_, _, rfl, rfl, (by walk_at "o2"), fun m_14 h_m_14 => ?_⟩
              refine ⟨_, _, rfl, rfl, ?_⟩
              refine ⟨_, rfl, fun l_rest_14 h_l_rest_14 => ?_⟩
              refine Ow.gnmS (σ' := [_, _, _, _, _, _, _, _]) rfl ?_
              have er := Ow.rest_of (n := number) (s := l_size) (by assumption) (by assumption) h_l_rest_14 h_l_size
              have en := Ow.near_of (kd := _) (n := number) (N := hi) (S := l_size) h_l_size hl hg (by omega) (by omega) (by omega) (by omega) (by omega)
              refine ⟨_, rfl, ?_⟩
              refine ⟨_, _, _, _, _, rfl, .inl ⟨rfl, rfl⟩, (h3 _ _ c0), rfl, ?_⟩
              refine ⟨_, rfl, ?_⟩
              refine ⟨_, _, ((Ow.Tf_Kind.plain kd_w)), _, rfl, (h3 _ _ c0), (by walk_at "o2"), fun b_27 h150 p_28 Hn_54 h151 h152 h153 => ?_⟩
              refine ⟨_, rfl, ?_⟩
              refine ⟨_, rfl, ?_⟩
              refine ⟨_, _, _, _, _, rfl, h153, (by first | exact er | exact en | exact (by assumption : _ = true ↔ ¬ (Ow.kl _ ≤ number ∧ number ≤ Ow.kg _)).mpr (by omega) | exact Bool.eq_iff_iff.mpr ((by assumption : _ = true ↔ ¬ (Ow.kl _ ≤ number ∧ number ≤ Ow.kg _)).trans (by rw [decide_eq_true_eq]; omega)) | omega), (by first | exact er | exact en | exact (by assumption : _ = true ↔ ¬ (Ow.kl _ ≤ number ∧ number ≤ Ow.kg _)).mpr (by omega) | exact Bool.eq_iff_iff.mpr ((by assumption : _ = true ↔ ¬ (Ow.kl _ ≤ number ∧ number ≤ Ow.kg _)).trans (by rw [decide_eq_true_eq]; omega)) | omega), fun Hn_55 h154 => ?_⟩
              refine ⟨_, rfl, ?_⟩
              refine iteT ?_
              refine ⟨_, rfl, ?_⟩
              refine ⟨_, _, _, _, _, rfl, .inl ⟨rfl, rfl⟩, (h154 _ _ (h151 _ _ (h3 _ _ c0))), rfl, ?_⟩
              refine ⟨_, rfl, ?_⟩
              refine ⟨_, _, ((Ow.Tf_Kind.plain kd_w)), _, rfl, (h154 _ _ (h151 _ _ (h3 _ _ c0))), (by walk_at "o2"), fun b_28 h155 p_29 Hn_56 h156 h157 h158 => ?_⟩
              refine ⟨_, rfl, ?_⟩
              refine ⟨_, rfl, ?_⟩
              refine ⟨_, _, _, _, _, rfl, h158, (by first | exact er | exact en | exact (by assumption : _ = true ↔ ¬ (Ow.kl _ ≤ number ∧ number ≤ Ow.kg _)).mpr (by omega) | exact Bool.eq_iff_iff.mpr ((by assumption : _ = true ↔ ¬ (Ow.kl _ ≤ number ∧ number ≤ Ow.kg _)).trans (by rw [decide_eq_true_eq]; omega)) | omega), (by first | exact er | exact en | exact (by assumption : _ = true ↔ ¬ (Ow.kl _ ≤ number ∧ number ≤ Ow.kg _)).mpr (by omega) | exact Bool.eq_iff_iff.mpr ((by assumption : _ = true ↔ ¬ (Ow.kl _ ≤ number ∧ number ≤ Ow.kg _)).trans (by rw [decide_eq_true_eq]; omega)) | omega), fun Hn_57 h159 => ?_⟩
              exact kont _ ((((h3.trans h151).trans h154).trans h156).trans h159)
          · refine ⟨_, rfl, ?_⟩
            refine ⟨_, _, rfl, rfl, ?_⟩
            refine ⟨_, rfl, ?_⟩
            refine Ow.ifd (fun h160 => ?_) (fun h160 => ?_)
            · refine ⟨_, rfl, ?_⟩
              refine ⟨_, rfl, ?_⟩
              refine ⟨_, _, rfl, rfl, ?_⟩
              refine ⟨_, rfl, fun l_nearest_8 h_l_nearest_8 => ?_⟩
              refine ⟨_, rfl, ?_⟩
              refine ⟨_, rfl, ?_⟩
              refine ⟨_, rfl, ?_⟩
              refine ⟨_, _, rfl, rfl, (by walk_at "o2"), fun q_15 h_q_15 => ?_⟩
              refine ⟨_, rfl, ?_⟩
              refine ⟨_, _, rfl, rfl, (by walk_at "o2"), fun m_15 h_m_15 => ?_⟩
              refine ⟨_, _, rfl, rfl, ?_⟩
              refine ⟨_, rfl, fun l_rest_15 h_l_rest_15 => ?_⟩
              refine Ow.gnmS (σ' := [_, _, _, _, _, _, _, _]) rfl ?_
              have er := Ow.rest_of (n := number) (s := l_size) (by assumption) (by assumption) h_l_rest_15 h_l_size
              have en := Ow.near_of (kd := _) (n := number) (N := l_nearest_8) (S := l_size) h_l_size hl hg (by omega) (by omega) (by omega) (by omega) (by omega)
              refine ⟨_, rfl, ?_⟩
              refine ⟨_, _, _, _, _, rfl, .inl ⟨rfl, rfl⟩, (h3 _ _ c0), rfl, ?_⟩
              refine ⟨_, rfl, ?_⟩
              refine ⟨_, _, ((Ow.Tf_Kind.plain kd_w)), _, rfl, (h3 _ _ c0), (by walk_at "o2"), fun b_29 h161 p_30 Hn_58 h162 h163 h164 => ?_⟩
              refine ⟨_, rfl, ?_⟩
              refine ⟨_, rfl, ?_⟩
              refine ⟨_, _, _, _, _, rfl, h164, (by first | exact er | exact en | exact (by assumption : _ = true ↔ ¬ (Ow.kl _ ≤ number ∧ number ≤ Ow.kg _)).mpr (by omega) | exact Bool.eq_iff_iff.mpr ((by assumption : _ = true ↔ ¬ (Ow.kl _ ≤ number ∧ number ≤ Ow.kg _)).trans (by rw [decide_eq_true_eq]; omega)) | omega), (by first | exact er | exact en | exact (by assumption : _ = true ↔ ¬ (Ow.kl _ ≤ number ∧ number ≤ Ow.kg _)).mpr (by omega) | exact Bool.eq_iff_iff.mpr ((by assumption : _ = true ↔ ¬ (Ow.kl _ ≤ number ∧ number ≤ Ow.kg _)).trans (by rw [decide_eq_true_eq]; omega)) | omega), fun Hn_59 h165 => ?_⟩
              refine ⟨_, rfl, ?_⟩
              refine iteT ?_
              refine ⟨_, rfl, ?_⟩
              refine ⟨_, _, _, _, _, rfl, .inl ⟨rfl, rfl⟩, (h165 _ _ (h162 _ _ (h3 _ _ c0))), rfl, ?_⟩
              refine ⟨_, rfl, ?_⟩
              refine ⟨_, _, ((Ow.Tf_Kind.plain kd_w)), _, rfl, (h165 _ _ (h162 _ _ (h3 _ _ c0))), (by walk_at "o2"), fun b_30 h166 p_31 Hn_60 h167 h168 h169 => ?_⟩
              refine ⟨_, rfl, ?_⟩
              refine ⟨_, rfl, ?_⟩
              refine ⟨_, _, _, _, _, rfl, h169, (by first | exact er | exact en | exact (by assumption : _ = true ↔ ¬ (Ow.kl _ ≤ number ∧ number ≤ Ow.kg _)).mpr (by omega) | exact Bool.eq_iff_iff.mpr ((by assumption : _ = true ↔ ¬ (Ow.kl _ ≤ number ∧ number ≤ Ow.kg _)).trans (by rw [decide_eq_true_eq]; omega)) | omega), (by first | exact er | exact en | exact (by assumption : _ = true ↔ ¬ (Ow.kl _ ≤ number ∧ number ≤ Ow.kg _)).mpr (by omega) | exact Bool.eq_iff_iff.mpr ((by assumption : _ = true ↔ ¬ (Ow.kl _ ≤ number ∧ number ≤ Ow.kg _)).trans (by rw [decide_eq_true_eq]; omega)) | omega), fun Hn_61 h170 => ?_⟩
              exact kont _ ((((h3.trans h162).trans h165).trans h167).trans h170)
            · refine ⟨_, rfl, ?_⟩
              refine ⟨_, rfl, ?_⟩
              refine ⟨_, rfl, ?_⟩
              refine ⟨_, _, rfl, rfl, (by walk_at "o2"), fun q_16 h_q_16 => ?_⟩
              refine ⟨_, rfl, ?_⟩
              refine ⟨_, _, rfl, rfl, (by walk_at "o2"), fun m_16 h_m_16 => ?_⟩
              refine ⟨_, _, rfl, rfl, ?_⟩
              refine ⟨_, rfl, fun l_rest_16 h_l_rest_16 => ?_⟩
              refine Ow.gnmS (σ' := [_, _, _, _, _, _, _, _]) rfl ?_
              have er := Ow.rest_of (n := number) (s := l_size) (by assumption) (by assumption) h_l_rest_16 h_l_size
              have en := Ow.near_of (kd := _) (n := number) (N := number) (S := l_size) h_l_size hl hg (by omega) (by omega) (by omega) (by omega) (by omega)
              refine ⟨_, rfl, ?_⟩
              refine ⟨_, _, _, _, _, rfl, .inl ⟨rfl, rfl⟩, (h3 _ _ c0), rfl, ?_⟩
              refine ⟨_, rfl, ?_⟩
              refine ⟨_, _, ((Ow.Tf_Kind.plain kd_w)), _, rfl, (h3 _ _ c0), (by walk_at "o2"), fun b_31 h171 p_32 Hn_62 h172 h173 h174 => ?_⟩
              refine ⟨_, rfl, ?_⟩
              refine ⟨_, rfl, ?_⟩
              refine ⟨_, _, _, _, _, rfl, h174, (by first | exact er | exact en | exact (by assumption : _ = true ↔ ¬ (Ow.kl _ ≤ number ∧ number ≤ Ow.kg _)).mpr (by omega) | exact Bool.eq_iff_iff.mpr ((by assumption : _ = true ↔ ¬ (Ow.kl _ ≤ number ∧ number ≤ Ow.kg _)).trans (by rw [decide_eq_true_eq]; omega)) | omega), (by first | exact er | exact en | exact (by assumption : _ = true ↔ ¬ (Ow.kl _ ≤ number ∧ number ≤ Ow.kg _)).mpr (by omega) | exact Bool.eq_iff_iff.mpr ((by assumption : _ = true ↔ ¬ (Ow.kl _ ≤ number ∧ number ≤ Ow.kg _)).trans (by rw [decide_eq_true_eq]; omega)) | omega), fun Hn_63 h175 => ?_⟩
              refine ⟨_, rfl, ?_⟩
              refine iteT ?_
              refine ⟨_, rfl, ?_⟩
              refine ⟨_, _, _, _, _, rfl, .inl ⟨rfl, rfl⟩, (h175 _ _ (h172 _ _ (h3 _ _ c0))), rfl, ?_⟩
              refine ⟨_, rfl, ?_⟩
              refine ⟨_, _, ((Ow.Tf_Kind.plain kd_w)), _, rfl, (h175 _ _ (h172 _ _ (h3 _ _ c0))), (by walk_at "o2"), fun b_32 h176 p_33 Hn_64 h177 h178 h179 => ?_⟩
              refine ⟨_, rfl, ?_⟩
              refine ⟨_, rfl, ?_⟩
              refine ⟨_, _, _, _, _, rfl, h179, (by first | exact er | exact en | exact (by assumption : _ = true ↔ ¬ (Ow.kl _ ≤ number ∧ number ≤ Ow.kg _)).mpr (by omega) | exact Bool.eq_iff_iff.mpr ((by assumption : _ = true ↔ ¬ (Ow.kl _ ≤ number ∧ number ≤ Ow.kg _)).trans (by rw [decide_eq_true_eq]; omega)) | omega), (by first | exact er | exact en | exact (by assumption : _ = true ↔ ¬ (Ow.kl _ ≤ number ∧ number ≤ Ow.kg _)).mpr (by omega) | exact Bool.eq_iff_iff.mpr ((by assumption : _ = true ↔ ¬ (Ow.kl _ ≤ number ∧ number ≤ Ow.kg _)).trans (by rw [decide_eq_true_eq]; omega)) | omega), fun Hn_65 h180 => ?_⟩
              exact kont _ ((((h3.trans h172).trans h175).trans h177).trans h180)
    · replace c0 : H kind = some (.ins T.k_Signed.C dx_kind [(("width" : Str), V.int (kd_w_2)), (("point" : Str), V.int (0))]) := c0
      replace c1 : H spec = some (.tup [.str ("signed"), .int (kd_w_2), .int (0)]) := c1
      have hk := Ow.krng c2
      have hl := Ow.kle c2
      have hg := Ow.kge c2
      simp only [Ow.KOk] at c2
      simp only [Ow.kw] at hk
      simp only [Ow.kle1] at hl
      simp only [Ow.kge1] at hg
      refine ⟨_, rfl, ?_⟩
      refine ⟨_, ((Ow.Tf_Kind.signed kd_w_2)), rfl, c1, (by walk_at "o2"), fun lo_2 hi_2 h181 h182 p_34 Hn_66 h183 h184 h185 => ?_⟩
      refine Ow.gnmS (σ' := [_, _, _, _, _, _, _, _]) rfl ?_
      refine ⟨_, rfl, ?_⟩
      refine ⟨_, _, _, _, rfl, rfl, (SqT.of (h183 _ _ c1)), (by first | rfl | decide), ?_⟩
      refine ⟨_, rfl, rfl, (by walk_at "o2"), fun l_size_2 h_l_size_2 h0_l_size_2 => ?_⟩
      refine Ow.gnmS (σ' := [_, _, _, _, _, _, _, _]) rfl ?_
      refine ⟨_, rfl, ?_⟩
      refine ⟨_, rfl, ?_⟩
      refine ⟨_, _, _, _, rfl, rfl, (SqT.of h185), (by first | rfl | decide), ?_⟩
      refine ⟨_, _, rfl, rfl, ?_⟩
      refine ⟨_, rfl, ?_⟩
      refine Ow.ifd (fun h186 => ?_) (fun h186 => ?_)
      · refine Ow.gnmS (σ' := [_, _, _, _, _, _, _, _]) rfl ?_
        refine ⟨_, rfl, ?_⟩
        refine Ow.gnmS (σ' := [_, _, _, _, _, _, _, _]) rfl ?_
        refine ⟨_, rfl, ?_⟩
        refine ⟨_, rfl, ?_⟩
        refine ⟨_, _, _, _, rfl, rfl, (SqT.of h185), (by first | rfl | decide), ?_⟩
        refine ⟨_, _, rfl, rfl, ?_⟩
        refine ⟨_, rfl, ?_⟩
        refine Ow.ifd (fun h187 => ?_) (fun h187 => ?_)
        · refine ⟨_, rfl, ?_⟩
          refine ⟨_, _, _, _, rfl, rfl, (SqT.of h185), (by first | rfl | decide), ?_⟩
          refine ⟨_, rfl, ?_⟩
          refine ⟨_, rfl, ?_⟩
          refine ⟨_, _, _, _, rfl, rfl, (SqT.of h185), (by first | rfl | decide), ?_⟩
          refine ⟨_, _, rfl, rfl, ?_⟩
          refine ⟨_, rfl, ?_⟩
          refine Ow.ifd (fun h188 => ?_) (fun h188 => ?_)
          · refine ⟨_, rfl, ?_⟩
            refine ⟨_, _, _, _, rfl, rfl, (SqT.of h185), (by first | rfl | decide), ?_⟩
            refine ⟨_, rfl, ?_⟩
            refine ⟨_, _, rfl, rfl, ?_⟩
            refine ⟨_, rfl, ?_⟩
            refine Ow.ifd (fun h189 => ?_) (fun h189 => ?_)
            · refine ⟨_, rfl, ?_⟩
              refine ⟨_, rfl, ?_⟩
              refine ⟨_, _, rfl, rfl, ?_⟩
              refine ⟨_, rfl, fun l_nearest_9 h_l_nearest_9 => ?_⟩
              refine ⟨_, rfl, ?_⟩
              refine ⟨_, rfl, ?_⟩
              refine ⟨_, rfl, ?_⟩
              refine ⟨_, _, rfl, rfl, (by walk_at "o2"), fun q_17 h_q_17 => ?_⟩
              refine ⟨_, rfl, ?_⟩
              refine ⟨_, _, rfl, rfl, (by walk_at "o2"), fun m_17 h_m_17 => ?_⟩
              refine ⟨_, _, rfl, rfl, ?_⟩
              refine ⟨_, rfl, fun l_rest_17 h_l_rest_17 => ?_⟩
              refine Ow.gnmS (σ' := [_, _, _, _, _, _, _, _]) rfl ?_
              have er := Ow.rest_of (n := number) (s := l_size_2) (by assumption) (by assumption) h_l_rest_17 h_l_size_2
              have en := Ow.near_of (kd := _) (n := number) (N := l_nearest_9) (S := l_size_2) h_l_size_2 hl hg (by omega) (by omega) (by omega) (by omega) (by omega)
              refine ⟨_, rfl, ?_⟩
              refine ⟨_, _, _, _, _, rfl, .inr (.inl ⟨rfl, rfl⟩), (h183 _ _ c0), rfl, ?_⟩
              refine ⟨_, rfl, ?_⟩
              refine ⟨_, _, ((Ow.Tf_Kind.signed kd_w_2)), _, rfl, (h183 _ _ c0), (by walk_at "o2"), fun b_33 h190 p_35 Hn_67 h191 h192 h193 => ?_⟩
              refine ⟨_, rfl, ?_⟩
              refine ⟨_, rfl, ?_⟩
              refine ⟨_, _, _, _, _, rfl, h193, (by first | exact er | exact en | exact (by assumption : _ = true ↔ ¬ (Ow.kl _ ≤ number ∧ number ≤ Ow.kg _)).mpr (by omega) | exact Bool.eq_iff_iff.mpr ((by assumption : _ = true ↔ ¬ (Ow.kl _ ≤ number ∧ number ≤ Ow.kg _)).trans (by rw [decide_eq_true_eq]; omega)) | omega), (by first | exact er | exact en | exact (by assumption : _ = true ↔ ¬ (Ow.kl _ ≤ number ∧ number ≤ Ow.kg _)).mpr (by omega) | exact Bool.eq_iff_iff.mpr ((by assumption : _ = true ↔ ¬ (Ow.kl _ ≤ number ∧ number ≤ Ow.kg _)).trans (by rw [decide_eq_true_eq]; omega)) | omega), fun Hn_68 h194 => ?_⟩
              refine ⟨_, rfl, ?_⟩
              refine iteT ?_
              refine ⟨_, rfl, ?_⟩
              refine ⟨_, _, _, _, _, rfl, .inr (.inl ⟨rfl, rfl⟩), (h194 _ _ (h191 _ _ (h183 _ _ c0))), rfl, ?_⟩
              refine ⟨_, rfl, ?_⟩
              refine ⟨_, _, ((Ow.Tf_Kind.signed kd_w_2)), _, rfl, (h194 _ _ (h191 _ _ (h183 _ _ c0))), (by walk_at "o2"), fun b_34 h195 p_36 Hn_69 h196 h197 h198 => ?_⟩
              refine ⟨_, rfl, ?_⟩
              refine ⟨_, rfl, ?_⟩
              refine ⟨_, _, _, _, _, rfl, h198, (by first | exact er | exact en | exact (by assumption : _ = true ↔ ¬ (Ow.kl _ ≤ number ∧ number ≤ Ow.kg _)).mpr (by omega) | exact Bool.eq_iff_iff.mpr ((by assumption : _ = true ↔ ¬ (Ow.kl _ ≤ number ∧ number ≤ Ow.kg _)).trans (by rw [decide_eq_true_eq]; omega)) | omega), (by first | exact er | exact en | exact (by assumption : _ = true ↔ ¬ (Ow.kl _ ≤ number ∧ number ≤ Ow.kg _)).mpr (by omega) | exact Bool.eq_iff_iff.mpr ((by assumption : _ = true ↔ ¬ (Ow.kl _ ≤ number ∧ number ≤ Ow.kg _)).trans (by rw [decide_eq_true_eq]; omega)) | omega), fun Hn_70 h199 => ?_⟩
              exact kont _ ((((h183.trans h191).trans h194).trans h196).trans h199)
            · refine ⟨_, rfl, ?_⟩
              refine ⟨_, rfl, ?_⟩
              refine ⟨_, rfl, ?_⟩
              refine ⟨_, _, rfl, rfl, (by walk_at "o2"), fun q_18 h_q_18 => ?_⟩
              refine ⟨_, rfl, ?_⟩
              refine ⟨_, _, rfl, rfl, (by walk_at "o2"), fun m_18 h_m_18 => ?_⟩
              refine ⟨_, _, rfl, rfl, ?_⟩
              refine ⟨_, rfl, fun l_rest_18 h_l_rest_18 => ?_⟩
              refine Ow.gnmS (σ' := [_, _, _, _, _, _, _, _]) rfl ?_
              have er := Ow.rest_of (n := number) (s := l_size_2) (by assumption) (by assumption) h_l_rest_18 h_l_size_2
              have en := Ow.near_of (kd := _) (n := number) (N := hi_2) (S := l_size_2) h_l_size_2 hl hg (by omega) (by omega) (by omega) (by omega) (by omega)
              refine ⟨_, rfl, ?_⟩
              refine ⟨_, _, _, _, _, rfl, .inr (.inl ⟨rfl, rfl⟩), (h183 _ _ c0), rfl, ?_⟩
              refine ⟨_, rfl, ?_⟩
              refine ⟨_, _, ((Ow.Tf_Kind.signed kd_w_2)), _, rfl, (h183 _ _ c0), (by walk_at "o2"), fun b_35 h200 p_37 Hn_71 h201 h202 h203 => ?_⟩
              refine ⟨_, rfl, ?_⟩
              refine ⟨_, rfl, ?_⟩
              refine ⟨_, _, _, _, _, rfl, h203, (by first | exact er | exact en | exact (by assumption : _ = true ↔ ¬ (Ow.kl _ ≤ number ∧ number ≤ Ow.kg _)).mpr (by omega) | exact Bool.eq_iff_iff.mpr ((by assumption : _ = true ↔ ¬ (Ow.kl _ ≤ number ∧ number ≤ Ow.kg _)).trans (by rw [decide_eq_true_eq]; omega)) | omega), (by first | exact er | exact en | exact (by assumption : _ = true ↔ ¬ (Ow.kl _ ≤ number ∧ number ≤ Ow.kg _)).mpr (by omega) | exact Bool.eq_iff_iff.mpr ((by assumption : _ = true ↔ ¬ (Ow.kl _ ≤ number ∧ number ≤ Ow.kg _)).trans (by rw [decide_eq_true_eq]; omega)) | omega), fun Hn_72 h204 => ?_⟩
              refine ⟨_, rfl, ?_⟩
              refine iteT ?_
              refine ⟨_, rfl, ?_⟩
              refine ⟨_, _, _, _, _, rfl, .inr (.inl ⟨rfl, rfl⟩), (h204 _ _ (h201 _ _ (h183 _ _ c0))), rfl, ?_⟩
              refine ⟨_, rfl, ?_⟩
              refine ⟨_, _, ((Ow.Tf_Kind.signed kd_w_2)), _, rfl, (h204 _ _ (h201 _ _ (h183 _ _ c0))), (by walk_at "o2"), fun b_36 h205 p_38 Hn_73 h206 h207 h208 => ?_⟩
              refine ⟨_, rfl, ?_⟩
              refine ⟨_, rfl, ?_⟩
              refine ⟨_, _, _, _, _, rfl, h208, (by first | exact er | exact en | exact (by assumption : _ = true ↔ ¬ (Ow.kl _ ≤ number ∧ number ≤ Ow.kg _)).mpr (by omega) | exact Bool.eq_iff_iff.mpr ((by assumption : _ = true ↔ ¬ (Ow.kl _ ≤ number ∧ number ≤ Ow.kg _)).trans (by rw [decide_eq_true_eq]; omega)) | omega), (by first | exact er | exact en | exact (by assumption : _ = true ↔ ¬ (Ow.kl _ ≤ number ∧ number ≤ Ow.kg _)).mpr (by omega) | exact Bool.eq_iff_iff.mpr ((by assumption : _ = true ↔ ¬ (Ow.kl _ ≤ number ∧ number ≤ Ow.kg _)).trans (by rw [decide_eq_true_eq]; omega)) | omega), fun Hn_74 h209 => ?_⟩
              exact kont _ ((((h183.trans h201).trans h204).trans h206).trans h209)
          · refine ⟨_, rfl, ?_⟩
            refine ⟨_, _, rfl, rfl, ?_⟩
            refine ⟨_, rfl, ?_⟩
            refine Ow.ifd (fun h210 => ?_) (fun h210 => ?_)
            · refine ⟨_, rfl, ?_⟩
              refine ⟨_, rfl, ?_⟩
              refine ⟨_, _, rfl, rfl, ?_⟩
              refine ⟨_, rfl, fun l_nearest_10 h_l_nearest_10 => ?_⟩
              refine ⟨_, rfl, ?_⟩
              refine ⟨_, rfl, ?_⟩
              refine ⟨_, rfl, ?_⟩
              refine ⟨_, _, rfl, rfl, (by walk_at "o2"), fun q_19 h_q_19 => ?_⟩
              refine ⟨_, rfl, ?_⟩
              refine ⟨_, _, rfl, rfl, (by walk_at "o2"), fun m_19 h_m_19 => ?_⟩
              refine ⟨_, _, rfl, rfl, ?_⟩
              refine ⟨_, rfl, fun l_rest_19 h_l_rest_19 => ?_⟩
              refine Ow.gnmS (σ' := [_, _, _, _, _, _, _, _]) rfl ?_
              have er := Ow.rest_of (n := number) (s := l_size_2) (by assumption) (by assumption) h_l_rest_19 h_l_size_2
              have en := Ow.near_of (kd := _) (n := number) (N := l_nearest_10) (S := l_size_2) h_l_size_2 hl hg (by omega) (by omega) (by omega) (by omega) (by omega)
              refine ⟨_, rfl, ?_⟩
              refine ⟨_, _, _, _, _, rfl, .inr (.inl ⟨rfl, rfl⟩), (h183 _ _ c0), rfl, ?_⟩
              refine ⟨_, rfl, ?_⟩
              refine ⟨_, _, ((Ow.Tf_Kind.signed kd_w_2)), _, rfl, (h183 _ _ c0), (by walk_at "o2"), fun b_37 h211 p_39 Hn_75 h212 h213 h214 => ?_⟩
              refine ⟨_, rfl, ?_⟩
              refine ⟨_, rfl, ?_⟩
              refine ⟨_, _, _, _, _, rfl, h214, (by first | exact er | exact en | exact (by assumption : _ = true ↔ ¬ (Ow.kl _ ≤ number ∧ number ≤ Ow.kg _)).mpr (by omega) | exact Bool.eq_iff_iff.mpr ((by assumption : _ = true ↔ ¬ (Ow.kl _ ≤ number ∧ number ≤ Ow.kg _)).trans (by rw [decide_eq_true_eq]; omega)) | omega), (by first | exact er | exact en | exact (by assumption : _ = true ↔ ¬ (Ow.kl _ ≤ number ∧ number ≤ Ow.kg _)).mpr (by omega) | exact Bool.eq_iff_iff.mpr ((by assumption : _ = true ↔ ¬ (Ow.kl _ ≤ number ∧ number ≤ Ow.kg _)).trans (by rw [decide_eq_true_eq]; omega)) | omega), fun Hn_76 h215 => ?_⟩
              refine ⟨_, rfl, ?_⟩
              refine iteT ?_
              refine ⟨_, rfl, ?_⟩
              refine ⟨_, _, _, _, _, rfl, .inr (.inl ⟨rfl, rfl⟩), (h215 _ _ (h212 _ _ (h183 _ _ c0))), rfl, ?_⟩
              refine ⟨_, rfl, ?_⟩
              refine ⟨_, _, ((Ow.Tf_Kind.signed kd_w_2)), _, rfl, (h215 _ _ (h212 _ _ (h183 _ _ c0))), (by walk_at "o2"), fun b_38 h216 p_40 Hn_77 h217 h218 h219 => ?_⟩
              refine ⟨_, rfl, ?_⟩
              refine ⟨_, rfl, ?_⟩
              refine ⟨_, _, _, _, _, rfl, h219, (by first | exact er | exact en | exact (by assumption : _ = true ↔ ¬ (Ow.kl _ ≤ number ∧ number ≤ Ow.kg _)).mpr (by omega) | exact Bool.eq_iff_iff.mpr ((by assumption : _ = true ↔ ¬ (Ow.kl _ ≤ number ∧ number ≤ Ow.kg _)).trans (by rw [decide_eq_true_eq]; omega)) | omega), (by first | exact er | exact en | exact (by assumption : _ = true ↔ ¬ (Ow.kl _ ≤ number ∧ number ≤ Ow.kg _)).mpr (by omega) | exact Bool.eq_iff_iff.mpr ((by assumption : _ = true ↔ ¬ (Ow.kl _ ≤ number ∧ number ≤ Ow.kg _)).trans (by rw [decide_eq_true_eq]; omega)) | omega), fun Hn_78 h220 => ?_⟩
              exact kont _ ((((h183.trans h212).trans h215).trans h217).trans h220)
            · refine ⟨_, rfl, ?_⟩
              refine ⟨_, rfl, ?_⟩
              refine ⟨_, rfl, ?_⟩
              refine ⟨_, _, rfl, rfl, (by walk_at "o2"), fun q_20 h_q_20 => ?_⟩
              refine ⟨_, rfl, ?_⟩
              refine ⟨_, _, rfl, rfl, (by walk_at "o2"), fun m_20 h_m_20 => ?_⟩
              refine ⟨_, _, rfl, rfl, ?_⟩
              refine ⟨_, rfl, fun l_rest_20 h_l_rest_20 => ?_⟩
              refine Ow.gnmS (σ' := [_, _, _, _, _, _, _, _]) rfl ?_
              have er := Ow.rest_of (n := number) (s := l_size_2) (by assumption) (by assumption) h_l_rest_20 h_l_size_2
              have en := Ow.near_of (kd := _) (n := number) (N := lo_2) (S := l_size_2) h_l_size_2 hl hg (by omega) (by omega) (by omega) (by omega) (by omega)
              refine ⟨_, rfl, ?_⟩
              refine ⟨_, _, _, _, _, rfl, .inr (.inl ⟨rfl, rfl⟩), (h183 _ _ c0), rfl, ?_⟩
              refine ⟨_, rfl, ?_⟩
              refine ⟨_, _, ((Ow.Tf_Kind.signed kd_w_2)), _, rfl, (h183 _ _ c0), (by walk_at "o2"), fun b_39 h221 p_41 Hn_79 h222 h223 h224 => ?_⟩
              refine ⟨_, rfl, ?_⟩
              refine ⟨_, rfl, ?_⟩
              refine ⟨_, _, _, _, _, rfl, h224, (by first | exact er | exact en | exact (by assumption : _ = true ↔ ¬ (Ow.kl _ ≤ number ∧ number ≤ Ow.kg _)).mpr (by omega) | exact Bool.eq_iff_iff.mpr ((by assumption : _ = true ↔ ¬ (Ow.kl _ ≤ number ∧ number ≤ Ow.kg _)).trans (by rw [decide_eq_true_eq]; omega)) | omega), (by first | exact er | exact en | exact (by assumption : _ = true ↔ ¬ (Ow.kl _ ≤ number ∧ number ≤ Ow.kg _)).mpr (by omega) | exact Bool.eq_iff_iff.mpr ((by assumption : _ = true ↔ ¬ (Ow.kl _ ≤ number ∧ number ≤ Ow.kg _)).trans (by rw [decide_eq_true_eq]; omega)) | omega), fun Hn_80 h225 => ?_⟩
              refine ⟨_, rfl, ?_⟩
              refine iteT ?_
              refine ⟨_, rfl, ?_⟩
              refine ⟨_, _, _, _, _, rfl, .inr (.inl ⟨rfl, rfl⟩), (h225 _ _ (h222 _ _ (h183 _ _ c0))), rfl, ?_⟩
              refine ⟨_, rfl, ?_⟩
              refine ⟨_, _, ((Ow.Tf_Kind.signed kd_w_2)), _, rfl, (h225 _ _ (h222 _ _ (h183 _ _ c0))), (by walk_at "o2"), fun b_40 h226 p_42 Hn_81 h227 h228 h229 => ?_⟩
              refine ⟨_, rfl, ?_⟩
              refine ⟨_, rfl, ?_⟩
              refine ⟨_, _, _, _, _, rfl, h229, (by first | exact er | exact en | exact (by assumption : _ = true ↔ ¬ (Ow.kl _ ≤ number ∧ number ≤ Ow.kg _)).mpr (by omega) | exact Bool.eq_iff_iff.mpr ((by assumption : _ = true ↔ ¬ (Ow.kl _ ≤ number ∧ number ≤ Ow.kg _)).trans (by rw [decide_eq_true_eq]; omega)) | omega), (by first | exact er | exact en | exact (by assumption : _ = true ↔ ¬ (Ow.kl _ ≤ number ∧ number ≤ Ow.kg _)).mpr (by omega) | exact Bool.eq_iff_iff.mpr ((by assumption : _ = true ↔ ¬ (Ow.kl _ ≤ number ∧ number ≤ Ow.kg _)).trans (by rw [decide_eq_true_eq]; omega)) | omega), fun Hn_82 h230 => ?_⟩
              exact kont _ ((((h183.trans h222).trans h225).trans h227).trans h230)
        · refine ⟨_, rfl, ?_⟩
          refine ⟨_, rfl, ?_⟩
          refine ⟨_, _, _, _, rfl, rfl, (SqT.of h185), (by first | rfl | decide), ?_⟩
          refine ⟨_, _, rfl, rfl, ?_⟩
          refine ⟨_, rfl, ?_⟩
          refine Ow.ifd (fun h231 => ?_) (fun h231 => ?_)
          · refine ⟨_, rfl, ?_⟩
            refine ⟨_, _, _, _, rfl, rfl, (SqT.of h185), (by first | rfl | decide), ?_⟩
            refine ⟨_, rfl, ?_⟩
            refine ⟨_, _, rfl, rfl, ?_⟩
            refine ⟨_, rfl, ?_⟩
            refine Ow.ifd (fun h232 => ?_) (fun h232 => ?_)
            · refine ⟨_, rfl, ?_⟩
              refine ⟨_, rfl, ?_⟩
              refine ⟨_, _, rfl, rfl, ?_⟩
              refine ⟨_, rfl, fun l_nearest_11 h_l_nearest_11 => ?_⟩
              refine ⟨_, rfl, ?_⟩
              refine ⟨_, rfl, ?_⟩
              refine ⟨_, rfl, ?_⟩
              refine ⟨_, _, rfl, rfl, (by walk_at "o2"), fun q_21 h_q_21 => ?_⟩
              refine ⟨_, rfl, ?_⟩
              refine ⟨_, _, rfl, rfl, (by walk_at "o2"), fun m_21 h_m_21 => ?_⟩
              refine ⟨_, _, rfl, rfl, ?_⟩
              refine ⟨_, rfl, fun l_rest_21 h_l_rest_21 => ?_⟩
              refine Ow.gnmS (σ' := [_, _, _, _, _, _, _, _]) rfl ?_
              have er := Ow.rest_of (n := number) (s := l_size_2) (by assumption) (by assumption) h_l_rest_21 h_l_size_2
              have en := Ow.near_of (kd := _) (n := number) (N := l_nearest_11) (S := l_size_2) h_l_size_2 hl hg (by omega) (by omega) (by omega) (by omega) (by omega)
              refine ⟨_, rfl, ?_⟩
              refine ⟨_, _, _, _, _, rfl, .inr (.inl ⟨rfl, rfl⟩), (h183 _ _ c0), rfl, ?_⟩
              refine ⟨_, rfl, ?_⟩
              refine ⟨_, _, ((Ow.Tf_Kind.signed kd_w_2)), _, rfl, (h183 _ _ c0), (by walk_at "o2"), fun b_41 h233 p_43 Hn_83 h234 h235 h236 => ?_⟩
              refine ⟨_, rfl, ?_⟩
              refine ⟨_, rfl, ?_⟩
              refine ⟨_, _, _, _, _, rfl, h236, (by first | exact er | exact en | exact (by assumption : _ = true ↔ ¬ (Ow.kl _ ≤ number ∧ number ≤ Ow.kg _)).mpr (by omega) | exact Bool.eq_iff_iff.mpr ((by assumption : _ = true ↔ ¬ (Ow.kl _ ≤ number ∧ number ≤ Ow.kg _)).trans (by rw [decide_eq_true_eq]; omega)) | omega), (by first | exact er | exact en | exact (by assumption : _ = true ↔ ¬ (Ow.kl _ ≤ number ∧ number ≤ Ow.kg _)).mpr (by omega) | exact Bool.eq_iff_iff.mpr ((by assumption : _ = true ↔ ¬ (Ow.kl _ ≤ number ∧ number ≤ Ow.kg _)).trans (by rw [decide_eq_true_eq]; omega)) | omega), fun Hn_84 h237 => ?_⟩
              refine ⟨_, rfl, ?_⟩
              refine iteT ?_
              refine ⟨_, rfl, ?_⟩
              refine ⟨_, _, _, _, _, rfl, .inr (.inl ⟨rfl, rfl⟩), (h237 _ _ (h234 _ _ (h183 _ _ c0))), rfl, ?_⟩
              refine ⟨_, rfl, ?_⟩
              refine ⟨_, _, ((Ow.Tf_Kind.signed kd_w_2)), _, rfl, (h237 _ _ (h234 _ _ (h183 _ _ c0))), (by walk_at "o2"), fun b_42 h238 p_44 Hn_85 h239 h240 h241 => ?_⟩
              refine ⟨_, rfl, ?_⟩
              refine ⟨_, rfl, ?_⟩
              refine ⟨_, _, _, _, _, rfl, h241, (by first | exact er | exact en | exact (by assumption : _ = true ↔ ¬ (Ow.kl _ ≤ number ∧ number ≤ Ow.kg _)).mpr (by omega) | exact Bool.eq_iff_iff.mpr ((by assumption : _ = true ↔ ¬ (Ow.kl _ ≤ number ∧ number ≤ Ow.kg _)).trans (by rw [decide_eq_true_eq]; omega)) | omega), (by first | exact er | exact en | exact (by assumption : _ = true ↔ ¬ (Ow.kl _ ≤ number ∧ number ≤ Ow.kg _)).mpr (by omega) | exact Bool.eq_iff_iff.mpr ((by assumption : _ = true ↔ ¬ (Ow.kl _ ≤ number ∧ number ≤ Ow.kg _)).trans (by rw [decide_eq_true_eq]; omega)) | omega), fun Hn_86 h242 => ?_⟩
              exact kont _ ((((h183.trans h234).trans h237).trans h239).trans h242)
            · refine ⟨_, rfl, ?_⟩
              refine ⟨_, rfl, ?_⟩
              refine ⟨_, rfl, ?_⟩
              refine ⟨_, _, rfl, rfl, (by walk_at "o2"), fun q_22 h_q_22 => ?_⟩
              refine ⟨_, rfl, ?_⟩
              refine ⟨_, _, rfl, rfl, (by walk_at "o2"), fun m_22 h_m_22 => ?_⟩
              refine ⟨_, _, rfl, rfl, ?_⟩
              refine ⟨_, rfl, fun l_rest_22 h_l_rest_22 => ?_⟩
              refine Ow.gnmS (σ' := [_, _, _, _, _, _, _, _]) rfl ?_
              have er := Ow.rest_of (n := number) (s := l_size_2) (by assumption) (by assumption) h_l_rest_22 h_l_size_2
              have en := Ow.near_of (kd := _) (n := number) (N := hi_2) (S := l_size_2) h_l_size_2 hl hg (by omega) (by omega) (by omega) (by omega) (by omega)
              refine ⟨_, rfl, ?_⟩
              refine ⟨_, _, _, _, _, rfl, .inr (.inl ⟨rfl, rfl⟩), (h183 _ _ c0), rfl, ?_⟩
              refine ⟨_, rfl, ?_⟩
              refine ⟨_, _, ((Ow.Tf_Kind.signed kd_w_2)), _, rfl, (h183 _ _ c0), (by walk_at "o2"), fun b_43 h243 p_45 Hn_87 h244 h245 h246 => ?_⟩
              refine ⟨_, rfl, ?_⟩
              refine ⟨_, rfl, ?_⟩
              refine ⟨_, _, _, _, _, rfl, h246, (by first | exact er | exact en | exact (by assumption : _ = true ↔ ¬ (Ow.kl _ ≤ number ∧ number ≤ Ow.kg _)).mpr (by omega) | exact Bool.eq_iff_iff.mpr ((by assumption : _ = true ↔ ¬ (Ow.kl _ ≤ number ∧ number ≤ Ow.kg _)).trans (by rw [decide_eq_true_eq]; omega)) | omega), (by first | exact er | exact en | exact (by assumption : _ = true ↔ ¬ (Ow.kl _ ≤ number ∧ number ≤ Ow.kg _)).mpr (by omega) | exact Bool.eq_iff_iff.mpr ((by assumption : _ = true ↔ ¬ (Ow.kl _ ≤ number ∧ number ≤ Ow.kg _)).trans (by rw [decide_eq_true_eq]; omega)) | omega), fun Hn_88 h247 => ?_⟩
              refine ⟨_, rfl, ?_⟩
              refine iteT ?_
              refine ⟨_, rfl, ?_⟩
              refine ⟨_, _, _, _, _, rfl, .inr (.inl ⟨rfl, rfl⟩), (h247 _ _ (h244 _ _ (h183 _ _ c0))), rfl, ?_⟩
              refine ⟨_, rfl, ?_⟩
              refine ⟨_, _, ((Ow.Tf_Kind.signed kd_w_2)), _, rfl, (h247 _ _ (h244 _ _ (h183 _ _ c0))), (by walk_at "o2"), fun b_44 h248 p_46 Hn_89 h249 h250 h251 => ?_⟩
              refine ⟨_, rfl, ?_⟩
              refine ⟨_, rfl, ?_⟩
              refine ⟨_, _, _, _, _, rfl, h251, (by first | exact er | exact en | exact (by assumption : _ = true ↔ ¬ (Ow.kl _ ≤ number ∧ number ≤ Ow.kg _)).mpr (by omega) | exact Bool.eq_iff_iff.mpr ((by assumption : _ = true ↔ ¬ (Ow.kl _ ≤ number ∧ number ≤ Ow.kg _)).trans (by rw [decide_eq_true_eq]; omega)) | omega), (by first | exact er | exact en | exact (by assumption : _ = true ↔ ¬ (Ow.kl _ ≤ number ∧ number ≤ Ow.kg _)).mpr (by omega) | exact Bool.eq_iff_iff.mpr ((by assumption : _ = true ↔ ¬ (Ow.kl _ ≤ number ∧ number ≤ Ow.kg _)).trans (by rw [decide_eq_true_eq]; omega)) | omega), fun Hn_90 h252 => ?_⟩
              exact kont _ ((((h183.trans h244).trans h247).trans h249).trans h252)
          · refine ⟨_, rfl, ?_⟩
            refine ⟨_, _, rfl, rfl, ?_⟩
            refine ⟨_, rfl, ?_⟩
            refine Ow.ifd (fun h253 => ?_) (fun h253 => ?_)
            · refine ⟨_, rfl, ?_⟩
              refine ⟨_, rfl, ?_⟩
              refine ⟨_, _, rfl, rfl, ?_⟩
              refine ⟨_, rfl, fun l_nearest_12 h_l_nearest_12 => ?_⟩
              refine ⟨_, rfl, ?_⟩
              refine ⟨_, rfl, ?_⟩
              refine ⟨_, rfl, ?_⟩
              refine ⟨_, _, rfl, rfl, (by walk_at "o2"), fun q_23 h_q_23 => ?_⟩
              refine ⟨_, rfl, ?_⟩
              refine ⟨_, _, rfl, rfl, (by walk_at "o2"), fun m_23 h_m_23 => ?_⟩
              refine ⟨_, _, rfl, rfl, ?_⟩
              refine ⟨_, rfl, fun l_rest_23 h_l_rest_23 => ?_⟩
              refine Ow.gnmS (σ' := [_, _, _, _, _, _, _, _]) rfl ?_
              have er := Ow.rest_of (n := number) (s := l_size_2) (by assumption) (by assumption) h_l_rest_23 h_l_size_2
              have en := Ow.near_of (kd := _) (n := number) (N := l_nearest_12) (S := l_size_2) h_l_size_2 hl hg (by omega) (by omega) (by omega) (by omega) (by omega)
              refine ⟨_, rfl, ?_⟩
              refine ⟨_, _, _, _, _, rfl, .inr (.inl ⟨rfl, rfl⟩), (h183 _ _ c0), rfl, ?_⟩
              refine ⟨_, rfl, ?_⟩
              refine ⟨_, _, ((Ow.Tf_Kind.signed kd_w_2)), _, rfl, (h183 _ _ c0), (by walk_at "o2"), fun b_45 h254 p_47 Hn_91 h255 h256 h257 => ?_⟩
              refine ⟨_, rfl, ?_⟩
              refine ⟨_, rfl, ?_⟩
              refine ⟨_, _, _, _, _, rfl, h257, (by first | exact er | exact en | exact (by assumption : _ = true ↔ ¬ (Ow.kl _ ≤ number ∧ number ≤ Ow.kg _)).mpr (by omega) | exact Bool.eq_iff_iff.mpr ((by assumption : _ = true ↔ ¬ (Ow.kl _ ≤ number ∧ number ≤ Ow.kg _)).trans (by rw [decide_eq_true_eq]; omega)) | omega), (by first | exact er | exact en | exact (by assumption : _ = true ↔ ¬ (Ow.kl _ ≤ number ∧ number ≤ Ow.kg _)).mpr (by omega) | exact Bool.eq_iff_iff.mpr ((by assumption : _ = true ↔ ¬ (Ow.kl _ ≤ number ∧ number ≤ Ow.kg _)).trans (by rw [decide_eq_true_eq]; omega)) | omega), fun Hn_92 h258 => ?_⟩
              refine ⟨_, rfl, ?_⟩
              refine iteT ?_
              refine ⟨_, rfl, ?_⟩
              refine ⟨_, _, _, _, _, rfl, .inr (.inl ⟨rfl, rfl⟩), (h258 _ _ (h255 _ _ (h183 _ _ c0))), rfl, ?_⟩
              refine ⟨_, rfl, ?_⟩
              refine ⟨_, _, ((Ow.Tf_Kind.signed kd_w_2)), _, rfl, (h258 _ _ (h255 _ _ (h183 _ _ c0))), (by walk_at "o2"), fun b_46 h259 p_48 Hn_93 h260 h261 h262 => ?_⟩
              refine ⟨_, rfl, ?_⟩
              refine ⟨_, rfl, ?_⟩
              refine ⟨_, _, _, _, _, rfl, h262, (by first | exact er | exact en | exact (by assumption : _ = true ↔ ¬ (Ow.kl _ ≤ number ∧ number ≤ Ow.kg _)).mpr (by omega) | exact Bool.eq_iff_iff.mpr ((by assumption : _ = true ↔ ¬ (Ow.kl _ ≤ number ∧ number ≤ Ow.kg _)).trans (by rw [decide_eq_true_eq]; omega)) | omega), (by first | exact er | exact en | exact (by assumption : _ = true ↔ ¬ (Ow.kl _ ≤ number ∧ number ≤ Ow.kg _)).mpr (by omega) | exact Bool.eq_iff_iff.mpr ((by assumption : _ = true ↔ ¬ (Ow.kl _ ≤ number ∧ number ≤ Ow.kg _)).trans (by rw [decide_eq_true_eq]; omega)) | omega), fun Hn_94 h263 => ?_⟩
              exact kont _ ((((h183.trans h255).trans h258).trans h260).trans h263)
            · refine ⟨_, rfl, ?_⟩
              refine ⟨_, rfl, ?_⟩
              refine ⟨_, rfl, ?_⟩
              refine ⟨_, _, rfl, rfl, (by walk_at "o2"), fun q_24 h_q_24 => ?_⟩
              refine ⟨_, rfl, ?_⟩
              refine ⟨_, _, rfl, rfl, (by walk_at "o2"), fun m_24 h_m_24 => ?_⟩
              refine ⟨_, _, rfl, rfl, ?_⟩
              refine ⟨_, rfl, fun l_rest_24 h_l_rest_24 => ?_⟩
              refine Ow.gnmS (σ' := [_, _, _, _, _, _, _, _]) rfl ?_
              have er := Ow.rest_of (n := number) (s := l_size_2) (by assumption) (by assumption) h_l_rest_24 h_l_size_2
              have en := Ow.near_of (kd := _) (n := number) (N := number) (S := l_size_2) h_l_size_2 hl hg (by omega) (by omega) (by omega) (by omega) (by omega)
              refine ⟨_, rfl, ?_⟩
              refine ⟨_, _, _, _, _, rfl, .inr (.inl ⟨rfl, rfl⟩), (h183 _ _ c0), rfl, ?_⟩
              refine ⟨_, rfl, ?_⟩
              refine ⟨_, _, ((Ow.Tf_Kind.signed kd_w_2)), _, rfl, (h183 _ _ c0), (by walk_at "o2"), fun b_47 h264 p_49 Hn_95 h265 h266 h267 => ?_⟩
              refine ⟨_, rfl, ?_⟩
              refine ⟨_, rfl, ?_⟩
              refine ⟨_, _, _, _, _, rfl, h267, (by first | exact er | exact en | exact (by assumption : _ = true ↔ ¬ (Ow.kl _ ≤ number ∧ number ≤ Ow.kg _)).mpr (by omega) | exact Bool.eq_iff_iff.mpr ((by assumption : _ = true ↔ ¬ (Ow.kl _ ≤ number ∧ number ≤ Ow.kg _)).trans (by rw [decide_eq_true_eq]; omega)) | omega), (by first | exact er | exact en | exact (by assumption : _ = true ↔ ¬ (Ow.kl _ ≤ number ∧ number ≤ Ow.kg _)).mpr (by omega) | exact Bool.eq_iff_iff.mpr ((by assumption : _ = true ↔ ¬ (Ow.kl _ ≤ number ∧ number ≤ Ow.kg _)).trans (by rw [decide_eq_true_eq]; omega)) | omega), fun Hn_96 h268 => ?_⟩
              refine ⟨_, rfl, ?_⟩
              refine iteT ?_
              refine ⟨_, rfl, ?_⟩
              refine ⟨_, _, _, _, _, rfl, .inr (.inl ⟨rfl, rfl⟩), (h268 _ _ (h265 _ _ (h183 _ _ c0))), rfl, ?_⟩
              refine ⟨_, rfl, ?_⟩
              refine ⟨_, _, ((Ow.Tf_Kind.signed kd_w_2)), _, rfl, (h268 _ _ (h265 _ _ (h183 _ _ c0))), (by walk_at "o2"), fun b_48 h269 p_50 Hn_97 h270 h271 h272 => ?_⟩
              refine ⟨_, rfl, ?_⟩
              refine ⟨_, rfl, ?_⟩
              refine ⟨_, _, _, _, _, rfl, h272, (by first | exact er | exact en | exact (by assumption : _ = true ↔ ¬ (Ow.kl _ ≤ number ∧ number ≤ Ow.kg _)).mpr (by omega) | exact Bool.eq_iff_iff.mpr ((by assumption : _ = true ↔ ¬ (Ow.kl _ ≤ number ∧ number ≤ Ow.kg _)).trans (by rw [decide_eq_true_eq]; omega)) | omega), (by first | exact er | exact en | exact (by assumption : _ = true ↔ ¬ (Ow.kl _ ≤ number ∧ number ≤ Ow.kg _)).mpr (by omega) | exact Bool.eq_iff_iff.mpr ((by assumption : _ = true ↔ ¬ (Ow.kl _ ≤ number ∧ number ≤ Ow.kg _)).trans (by rw [decide_eq_true_eq]; omega)) | omega), fun Hn_98 h273 => ?_⟩
              exact kont _ ((((h183.trans h265).trans h268).trans h270).trans h273)
      · refine ⟨_, rfl, ?_⟩
        refine ⟨_, rfl, ?_⟩
        refine ⟨_, _, _, _, rfl, rfl, (SqT.of h185), (by first | rfl | decide), ?_⟩
        refine ⟨_, _, rfl, rfl, ?_⟩
        refine Ow.gnmS (σ' := [_, _, _, _, _, _, _, _]) rfl ?_
        refine ⟨_, rfl, ?_⟩
        refine Ow.gnmS (σ' := [_, _, _, _, _, _, _, _]) rfl ?_
        refine ⟨_, rfl, ?_⟩
        refine ⟨_, rfl, ?_⟩
        refine ⟨_, _, _, _, rfl, rfl, (SqT.of h185), (by first | rfl | decide), ?_⟩
        refine ⟨_, _, rfl, rfl, ?_⟩
        refine ⟨_, rfl, ?_⟩
        refine Ow.ifd (fun h274 => ?_) (fun h274 => ?_)
        · refine ⟨_, rfl, ?_⟩
          refine ⟨_, _, _, _, rfl, rfl, (SqT.of h185), (by first | rfl | decide), ?_⟩
          refine ⟨_, rfl, ?_⟩
          refine ⟨_, rfl, ?_⟩
          refine ⟨_, _, _, _, rfl, rfl, (SqT.of h185), (by first | rfl | decide), ?_⟩
          refine ⟨_, _, rfl, rfl, ?_⟩
          refine ⟨_, rfl, ?_⟩
          refine Ow.ifd (fun h275 => ?_) (fun h275 => ?_)
          · refine ⟨_, rfl, ?_⟩
            refine ⟨_, _, _, _, rfl, rfl, (SqT.of h185), (by first | rfl | decide), ?_⟩
            refine ⟨_, rfl, ?_⟩
            refine ⟨_, _, rfl, rfl, ?_⟩
            refine ⟨_, rfl, ?_⟩
            refine Ow.ifd (fun h276 => ?_) (fun h276 => ?_)
            · refine ⟨_, rfl, ?_⟩
              refine ⟨_, rfl, ?_⟩
              refine ⟨_, _, rfl, rfl, ?_⟩
              refine ⟨_, rfl, fun l_nearest_13 h_l_nearest_13 => ?_⟩
              refine ⟨_, rfl, ?_⟩
              refine ⟨_, rfl, ?_⟩
              refine ⟨_, rfl, ?_⟩
              refine ⟨_, _, rfl, rfl, (by walk_at "o2"), fun q_25 h_q_25 => ?_⟩
              refine ⟨_, rfl, ?_⟩
              refine ⟨_, _, rfl, rfl, (by walk_at "o2"), fun m_25 h_m_25 => ?_⟩
              refine ⟨_, _, rfl, rfl, ?_⟩
              refine ⟨_, rfl, fun l_rest_25 h_l_rest_25 => ?_⟩
              refine Ow.gnmS (σ' := [_, _, _, _, _, _, _, _]) rfl ?_
              have er := Ow.rest_of (n := number) (s := l_size_2) (by assumption) (by assumption) h_l_rest_25 h_l_size_2
              have en := Ow.near_of (kd := _) (n := number) (N := l_nearest_13) (S := l_size_2) h_l_size_2 hl hg (by omega) (by omega) (by omega) (by omega) (by omega)
              refine ⟨_, rfl, ?_⟩
              refine ⟨_, _, _, _, _, rfl, .inr (.inl ⟨rfl, rfl⟩), (h183 _ _ c0), rfl, ?_⟩
              refine ⟨_, rfl, ?_⟩
              refine ⟨_, _, ((Ow.Tf_Kind.signed kd_w_2)), _, rfl, (h183 _ _ c0), (by walk_at "o2"), fun b_49 h277 p_51 Hn_99 h278 h279 h280 => ?_⟩
              refine ⟨_, rfl, ?_⟩
              refine ⟨_, rfl, ?_⟩
              refine ⟨_, _, _, _, _, rfl, h280, (by first | exact er | exact en | exact (by assumption : _ = true ↔ ¬ (Ow.kl _ ≤ number ∧ number ≤ Ow.kg _)).mpr (by omega) | exact Bool.eq_iff_iff.mpr ((by assumption : _ = true ↔ ¬ (Ow.kl _ ≤ number ∧ number ≤ Ow.kg _)).trans (by rw [decide_eq_true_eq]; omega)) | omega), (by first | exact er | exact en | exact (by assumption : _ = true ↔ ¬ (Ow.kl _ ≤ number ∧ number ≤ Ow.kg _)).mpr (by omega) | exact Bool.eq_iff_iff.mpr ((by assumption : _ = true ↔ ¬ (Ow.kl _ ≤ number ∧ number ≤ Ow.kg _)).trans (by rw [decide_eq_true_eq]; omega)) | omega), fun Hn_100 h281 => ?_⟩
              refine ⟨_, rfl, ?_⟩
              refine iteT ?_
              refine ⟨_, rfl, ?_⟩
              refine ⟨_, _, _, _, _, rfl, .inr (.inl ⟨rfl, rfl⟩), (h281 _ _ (h278 _ _ (h183 _ _ c0))), rfl, ?_⟩
              refine ⟨_, rfl, ?_⟩
              refine ⟨_, _, ((Ow.Tf_Kind.signed kd_w_2)), _, rfl, (h281 _ _ (h278 _ _ (h183 _ _ c0))), (by walk_at "o2"), fun b_50 h282 p_52 Hn_101 h283 h284 h285 => ?_⟩
              refine ⟨_, rfl, ?_⟩
              refine ⟨_, rfl, ?_⟩
              refine ⟨_, _, _, _, _, rfl, h285, (by first | exact er | exact en | exact (by assumption : _ = true ↔ ¬ (Ow.kl _ ≤ number ∧ number ≤ Ow.kg _)).mpr (by omega) | exact Bool.eq_iff_iff.mpr ((by assumption : _ = true ↔ ¬ (Ow.kl _ ≤ number ∧ number ≤ Ow.kg _)).trans (by rw [decide_eq_true_eq]; omega)) | omega), (by first | exact er | exact en | exact (by assumption : _ = true ↔ ¬ (Ow.kl _ ≤ number ∧ number ≤ Ow.kg _)).mpr (by omega) | exact Bool.eq_iff_iff.mpr ((by assumption : _ = true ↔ ¬ (Ow.kl _ ≤ number ∧ number ≤ Ow.kg _)).trans (by rw [decide_eq_true_eq]; omega)) | omega), fun Hn_102 h286 => ?_⟩
              exact kont _ ((((h183.trans h278).trans h281).trans h283).trans h286)
            · refine ⟨_, rfl, ?_⟩
              refine ⟨_, rfl, ?_⟩
              refine ⟨_, rfl, ?_⟩
              refine ⟨_, _, rfl, rfl, (by walk_at "o2"), fun q_26 h_q_26 => ?_⟩
              refine ⟨_, rfl, ?_⟩
              refine ⟨_, _, rfl, rfl, (by walk_at "o2"), fun m_26 h_m_26 => ?_⟩
              refine ⟨_, _, rfl, rfl, ?_⟩
              refine ⟨_, rfl, fun l_rest_26 h_l_rest_26 => ?_⟩
              refine Ow.gnmS (σ' := [_, _, _, _, _, _, _, _]) rfl ?_
              have er := Ow.rest_of (n := number) (s := l_size_2) (by assumption) (by assumption) h_l_rest_26 h_l_size_2
              have en := Ow.near_of (kd := _) (n := number) (N := hi_2) (S := l_size_2) h_l_size_2 hl hg (by omega) (by omega) (by omega) (by omega) (by omega)
              refine ⟨_, rfl, ?_⟩
              refine ⟨_, _, _, _, _, rfl, .inr (.inl ⟨rfl, rfl⟩), (h183 _ _ c0), rfl, ?_⟩
              refine ⟨_, rfl, ?_⟩
              refine ⟨_, _, ((Ow.Tf_Kind.signed kd_w_2)), _, rfl, (h183 _ _ c0), (by walk_at "o2"), fun b_51 h287 p_53 Hn_103 h288 h289 h290 => ?_⟩
              refine ⟨_, rfl, ?_⟩
              refine ⟨_, rfl, ?_⟩
              refine ⟨_, _, _, _, _, rfl, h290, (by first | exact er | exact en | exact (by assumption : _ = true ↔ ¬ (Ow.kl _ ≤ number ∧ number ≤ Ow.kg _)).mpr (by omega) | exact Bool.eq_iff_iff.mpr ((by assumption : _ = true ↔ ¬ (Ow.kl _ ≤ number ∧ number ≤ Ow.kg _)).trans (by rw [decide_eq_true_eq]; omega)) | omega), (by first | exact er | exact en | exact (by assumption : _ = true ↔ ¬ (Ow.kl _ ≤ number ∧ number ≤ Ow.kg _)).mpr (by omega) | exact Bool.eq_iff_iff.mpr ((by assumption : _ = true ↔ ¬ (Ow.kl _ ≤ number ∧ number ≤ Ow.kg _)).trans (by rw [decide_eq_true_eq]; omega)) | omega), fun Hn_104 h291 => ?_⟩
              refine ⟨_, rfl, ?_⟩
              refine iteT ?_
              refine ⟨_, rfl, ?_⟩
              refine ⟨_, _, _, _, _, rfl, .inr (.inl ⟨rfl, rfl⟩), (h291 _ _ (h288 _ _ (h183 _ _ c0))), rfl, ?_⟩
              refine ⟨_, rfl, ?_⟩
              refine ⟨_, _, ((Ow.Tf_Kind.signed kd_w_2)), _, rfl, (h291 _ _ (h288 _ _ (h183 _ _ c0))), (by walk_at "o2"), fun b_52 h292 p_54 Hn_105 h293 h294 h295 => ?_⟩
              refine ⟨_, rfl, ?_⟩
              refine ⟨_, rfl, ?_⟩
              refine ⟨_, _, _, _, _, rfl, h295, (by first | exact er | exact en | exact (by assumption : _ = true ↔ ¬ (Ow.kl _ ≤ number ∧ number ≤ Ow.kg _)).mpr (by omega) | exact Bool.eq_iff_iff.mpr ((by assumption : _ = true ↔ ¬ (Ow.kl _ ≤ number ∧ number ≤ Ow.kg _)).trans (by rw [decide_eq_true_eq]; omega)) | omega), (by first | exact er | exact en | exact (by assumption : _ = true ↔ ¬ (Ow.kl _ ≤ number ∧ number ≤ Ow.kg _)).mpr (by omega) | exact Bool.eq_iff_iff.mpr ((by assumption : _ = true ↔ ¬ (Ow.kl _ ≤ number ∧ number ≤ Ow.kg _)).trans (by rw [decide_eq_true_eq]; omega)) | omega), fun Hn_106 h296 => ?_⟩
              exact kont _ ((((h183.trans h288).trans h291).trans h293).trans h296)
          · refine ⟨_, rfl, ?_⟩
            refine ⟨_, _, rfl, rfl, ?_⟩
            refine ⟨_, rfl, ?_⟩
            refine Ow.ifd (fun h297 => ?_) (fun h297 => ?_)
            · refine ⟨_, rfl, ?_⟩
              refine ⟨_, rfl, ?_⟩
              refine ⟨_, _, rfl, rfl, ?_⟩
              refine ⟨_, rfl, fun l_nearest_14 h_l_nearest_14 => ?_⟩
              refine ⟨_, rfl, ?_⟩
              refine ⟨_, rfl, ?_⟩
              refine ⟨_, rfl, ?_⟩
              refine ⟨_, _, rfl, rfl, (by walk_at "o2"), fun q_27 h_q_27 => ?_⟩
              refine ⟨_, rfl, ?_⟩
              refine ⟨_, _, rfl, rfl, (by walk_at "o2"), fun m_27 h_m_27 => ?_⟩
              refine ⟨_, _, rfl, rfl, ?_⟩
              refine ⟨_, rfl, fun l_rest_27 h_l_rest_27 => ?_⟩
              refine Ow.gnmS (σ' := [_, _, _, _, _, _, _, _]) rfl ?_
              have er := Ow.rest_of (n := number) (s := l_size_2) (by assumption) (by assumption) h_l_rest_27 h_l_size_2
              have en := Ow.near_of (kd := _) (n := number) (N := l_nearest_14) (S := l_size_2) h_l_size_2 hl hg (by omega) (by omega) (by omega) (by omega) (by omega)
              refine ⟨_, rfl, ?_⟩
              refine ⟨_, _, _, _, _, rfl, .inr (.inl ⟨rfl, rfl⟩), (h183 _ _ c0), rfl, ?_⟩
              refine ⟨_, rfl, ?_⟩
              refine ⟨_, _, ((Ow.Tf_Kind.signed kd_w_2)), _, rfl, (h183 _ _ c0), (by walk_at "o2"), fun b_53 h298 p_55 Hn_107 h299 h300 h301 => ?_⟩
              refine ⟨_, rfl, ?_⟩
              refine ⟨_, rfl, ?_⟩
              refine ⟨_, _, _, _, _, rfl, h301, (by first | exact er | exact en | exact (by assumption : _ = true ↔ ¬ (Ow.kl _ ≤ number ∧ number ≤ Ow.kg _)).mpr (by omega) | exact Bool.eq_iff_iff.mpr ((by assumption : _ = true ↔ ¬ (Ow.kl _ ≤ number ∧ number ≤ Ow.kg _)).trans (by rw [decide_eq_true_eq]; omega)) | omega), (by first | exact er | exact en | exact (by assumption : _ = true ↔ ¬ (Ow.kl _ ≤ number ∧ number ≤ Ow.kg _)).mpr (by omega) | exact Bool.eq_iff_iff.mpr ((by assumption : _ = true ↔ ¬ (Ow.kl _ ≤ number ∧ number ≤ Ow.kg _)).trans (by rw [decide_eq_true_eq]; omega)) | omega), fun Hn_108 h302 => ?_⟩
              refine ⟨_, rfl, ?_⟩
              refine iteT ?_
              refine ⟨_, rfl, ?_⟩
              refine ⟨_, _, _, _, _, rfl, .inr (.inl ⟨rfl, rfl⟩), (h302 _ _ (h299 _ _ (h183 _ _ c0))), rfl, ?_⟩
              refine ⟨_, rfl, ?_⟩
              refine ⟨_, _, ((Ow.Tf_Kind.signed kd_w_2)), _, rfl, (h302 _ _ (h299 _ _ (h183 _ _ c0))), (by walk_at "o2"), fun b_54 h303 p_56 Hn_109 h304 h305 h306 => ?_⟩
              refine ⟨_, rfl, ?_⟩
              refine ⟨_, rfl, ?_⟩
              refine ⟨_, _, _, _, _, rfl, h306, (by first | exact er | exact en | exact (by assumption : _ = true ↔ ¬ (Ow.kl _ ≤ number ∧ number ≤ Ow.kg _)).mpr (by omega) | exact Bool.eq_iff_iff.mpr ((by assumption : _ = true ↔ ¬ (Ow.kl _ ≤ number ∧ number ≤ Ow.kg _)).trans (by rw [decide_eq_true_eq]; omega)) | omega), (by first | exact er | exact en | exact (by assumption : _ = true ↔ ¬ (Ow.kl _ ≤ number ∧ number ≤ Ow.kg _)).mpr (by omega) | exact Bool.eq_iff_iff.mpr ((by assumption : _ = true ↔ ¬ (Ow.kl _ ≤ number ∧ number ≤ Ow.kg _)).trans (by rw [decide_eq_true_eq]; omega)) | omega), fun Hn_110 h307 => ?_⟩
              exact kont _ ((((h183.trans h299).trans h302).trans h304).trans h307)
            · refine ⟨_, rfl, ?_⟩
              refine ⟨_, rfl, ?_⟩
              refine ⟨_, rfl, ?_⟩
              refine ⟨_, _, rfl, rfl, (by walk_at "o2"), fun q_28 h_q_28 => ?_⟩
              refine ⟨_, rfl, ?_⟩
              refine ⟨_, _, rfl, rfl, (by walk_at "o2"), fun m_28 h_m_28 => ?_⟩
              refine ⟨_, _, rfl, rfl, ?_⟩
              refine ⟨_, rfl, fun l_rest_28 h_l_rest_28 => ?_⟩
              refine Ow.gnmS (σ' := [_, _, _, _, _, _, _, _]) rfl ?_
              have er := Ow.rest_of (n := number) (s := l_size_2) (by assumption) (by assumption) h_l_rest_28 h_l_size_2
              have en := Ow.near_of (kd := _) (n := number) (N := lo_2) (S := l_size_2) h_l_size_2 hl hg (by omega) (by omega) (by omega) (by omega) (by omega)
              refine ⟨_, rfl, ?_⟩
              refine ⟨_, _, _, _, _, rfl, .inr (.inl ⟨rfl, rfl⟩), (h183 _ _ c0), rfl, ?_⟩
              refine ⟨_, rfl, ?_⟩
              refine ⟨_, _, ((Ow.Tf_Kind.signed kd_w_2)), _, rfl, (h183 _ _ c0), (by walk_at "o2"), fun b_55 h308 p_57 Hn_111 h309 h310 h311 => ?_⟩
              refine ⟨_, rfl, ?_⟩
              refine ⟨_, rfl, ?_⟩
              refine ⟨_, _, _, _, _, rfl, h311, (by first | exact er | exact en | exact (by assumption : _ = true ↔ ¬ (Ow.kl _ ≤ number ∧ number ≤ Ow.kg _)).mpr (by omega) | exact Bool.eq_iff_iff.mpr ((by assumption : _ = true ↔ ¬ (Ow.kl _ ≤ number ∧ number ≤ Ow.kg _)).trans (by rw [decide_eq_true_eq]; omega)) | omega), (by first | exact er | exact en | exact (by assumption : _ = true ↔ ¬ (Ow.kl _ ≤ number ∧ number ≤ Ow.kg _)).mpr (by omega) | exact Bool.eq_iff_iff.mpr ((by assumption : _ = true ↔ ¬ (Ow.kl _ ≤ number ∧ number ≤ Ow.kg _)).trans (by rw [decide_eq_true_eq]; omega)) | omega), fun Hn_112 h312 => ?_⟩
              refine ⟨_, rfl, ?_⟩
              refine iteT ?_
              refine ⟨_, rfl, ?_⟩
              refine ⟨_, _, _, _, _, rfl, .inr (.inl ⟨rfl, rfl⟩), (h312 _ _ (h309 _ _ (h183 _ _ c0))), rfl, ?_⟩
              refine ⟨_, rfl, ?_⟩
              refine ⟨_, _, ((Ow.Tf_Kind.signed kd_w_2)), _, rfl, (h312 _ _ (h309 _ _ (h183 _ _ c0))), (by walk_at "o2"), fun b_56 h313 p_58 Hn_113 h314 h315 h316 => ?_⟩
              refine ⟨_, rfl, ?_⟩
              refine ⟨_, rfl, ?_⟩
              refine ⟨_, _, _, _, _, rfl, h316, (by first | exact er | exact en | exact (by assumption : _ = true ↔ ¬ (Ow.kl _ ≤ number ∧ number ≤ Ow.kg _)).mpr (by omega) | exact Bool.eq_iff_iff.mpr ((by assumption : _ = true ↔ ¬ (Ow.kl _ ≤ number ∧ number ≤ Ow.kg _)).trans (by rw [decide_eq_true_eq]; omega)) | omega), (by first | exact er | exact en | exact (by assumption : _ = true ↔ ¬ (Ow.kl _ ≤ number ∧ number ≤ Ow.kg _)).mpr (by omega) | exact Bool.eq_iff_iff.mpr ((by assumption : _ = true ↔ ¬ (Ow.kl _ ≤ number ∧ number ≤ Ow.kg _)).trans (by rw [decide_eq_true_eq]; omega)) | omega), fun Hn_114 h317 => ?_⟩
              exact kont _ ((((h183.trans h309).trans h312).trans h314).trans h317)
        · refine ⟨_, rfl, ?_⟩
          refine ⟨_, rfl, ?_⟩
          refine ⟨_, _, _, _, rfl, rfl, (SqT.of h185), (by first | rfl | decide), ?_⟩
          refine ⟨_, _, rfl, rfl, ?_⟩
          refine ⟨_, rfl, ?_⟩
          refine Ow.ifd (fun h318 => ?_) (fun h318 => ?_)
          · refine ⟨_, rfl, ?_⟩
            refine ⟨_, _, _, _, rfl, rfl, (SqT.of h185), (by first | rfl | decide), ?_⟩
            refine ⟨_, rfl, ?_⟩
            refine ⟨_, _, rfl, rfl, ?_⟩
            refine ⟨_, rfl, ?_⟩
            refine Ow.ifd (fun h319 => ?_) (fun h319 => ?_)
            · refine ⟨_, rfl, ?_⟩
              refine ⟨_, rfl, ?_⟩
              refine ⟨_, _, rfl, rfl, ?_⟩
              refine ⟨_, rfl, fun l_nearest_15 h_l_nearest_15 => ?_⟩
              refine ⟨_, rfl, ?_⟩
              refine ⟨_, rfl, ?_⟩
              refine ⟨_, rfl, ?_⟩
              refine ⟨_, _, rfl, rfl, (by walk_at "o2"), fun q_29 h_q_29 => ?_⟩
              refine ⟨_, rfl, ?_⟩
              refine ⟨_, _, rfl, rfl, (by walk_at "o2"), fun m_29 h_m_29 => ?_⟩
              refine ⟨_, _, rfl, rfl, ?_⟩
              refine ⟨_, rfl, fun l_rest_29 h_l_rest_29 => ?_⟩
              refine Ow.gnmS (σ' := [_, _, _, _, _, _, _, _]) rfl ?_
              have er := Ow.rest_of (n := number) (s := l_size_2) (by assumption) (by assumption) h_l_rest_29 h_l_size_2
              have en := Ow.near_of (kd := _) (n := number) (N := l_nearest_15) (S := l_size_2) h_l_size_2 hl hg (by omega) (by omega) (by omega) (by omega) (by omega)
              refine ⟨_, rfl, ?_⟩
              refine ⟨_, _, _, _, _, rfl, .inr (.inl ⟨rfl, rfl⟩), (h183 _ _ c0), rfl, ?_⟩
              refine ⟨_, rfl, ?_⟩
              refine ⟨_, _, ((Ow.Tf_Kind.signed kd_w_2)), _, rfl, (h183 _ _ c0), (by walk_at "o2"), fun b_57 h320 p_59 Hn_115 h321 h322 h323 => ?_⟩
              refine ⟨_, rfl, ?_⟩
              refine ⟨_, rfl, ?_⟩
              refine ⟨_, _, _, _, _, rfl, h323, (by first | exact er | exact en | exact (by assumption : _ = true ↔ ¬ (Ow.kl _ ≤ number ∧ number ≤ Ow.kg _)).mpr (by omega) | exact Bool.eq_iff_iff.mpr ((by assumption : _ = true ↔ ¬ (Ow.kl _ ≤ number ∧ number ≤ Ow.kg _)).trans (by rw [decide_eq_true_eq]; omega)) | omega), (by first | exact er | exact en | exact (by assumption : _ = true ↔ ¬ (Ow.kl _ ≤ number ∧ number ≤ Ow.kg _)).mpr (by omega) | exact Bool.eq_iff_iff.mpr ((by assumption : _ = true ↔ ¬ (Ow.kl _ ≤ number ∧ number ≤ Ow.kg _)).trans (by rw [decide_eq_true_eq]; omega)) | omega), fun Hn_116 h324 => ?_⟩
              refine ⟨_, rfl, ?_⟩
              refine iteT ?_
              refine ⟨_, rfl, ?_⟩
              refine ⟨_, _, _, _, _, rfl, .inr (.inl ⟨rfl, rfl⟩), (h324 _ _ (h321 _ _ (h183 _ _ c0))), rfl, ?_⟩
              refine ⟨_, rfl, ?_⟩
              refine ⟨_, _, ((Ow.Tf_Kind.signed kd_w_2)), _, rfl, (h324 _ _ (h321 _ _ (h183 _ _ c0))), (by walk_at "o2"), fun b_58 h325 p_60 Hn_117 h326 h327 h328 => ?_⟩
              refine ⟨_, rfl, ?_⟩
              refine ⟨_, rfl, ?_⟩
              refine ⟨_, _, _, _, _, rfl, h328, (by first | exact er | exact en | exact (by assumption : _ = true ↔ ¬ (Ow.kl _ ≤ number ∧ number ≤ Ow.kg _)).mpr (by omega) | exact Bool.eq_iff_iff.mpr ((by assumption : _ = true ↔ ¬ (Ow.kl _ ≤ number ∧ number ≤ Ow.kg _)).trans (by rw [decide_eq_true_eq]; omega)) | omega), (by first | exact er | exact en | exact (by assumption : _ = true ↔ ¬ (Ow.kl _ ≤ number ∧ number ≤ Ow.kg _)).mpr (by omega) | exact Bool.eq_iff_iff.mpr ((by assumption : _ = true ↔ ¬ (Ow.kl _ ≤ number ∧ number ≤ Ow.kg _)).trans (by rw [decide_eq_true_eq]; omega)) | omega), fun Hn_118 h329 => ?_⟩
              exact kont _ ((((h183.trans h321).trans h324).trans h326).trans h329)
            · refine ⟨_, rfl, ?_⟩
              refine ⟨_, rfl, ?_⟩
              refine ⟨_, rfl, ?_⟩
              refine ⟨_, _, rfl, rfl, (by walk_at "o2"), fun q_30 h_q_30 => ?_⟩
              refine ⟨_, rfl, ?_⟩
              refine ⟨_, _, rfl, rfl, (by walk_at "o2"), fun m_30 h_m_30 => ?_⟩
              refine ⟨_, _, rfl, rfl, ?_⟩
              refine ⟨_, rfl, fun l_rest_30 h_l_rest_30 => ?_⟩
              refine Ow.gnmS (σ' := [_, _, _, _, _, _, _, _]) rfl ?_
              have er := Ow.rest_of (n := number) (s := l_size_2) (by assumption) (by assumption) h_l_rest_30 h_l_size_2
              have en := Ow.near_of (kd := _) (n := number) (N := hi_2) (S := l_size_2) h_l_size_2 hl hg (by omega) (by omega) (by omega) (by omega) (by omega)
              refine ⟨_, rfl, ?_⟩
              refine ⟨_, _, _, _, _, rfl, .inr (.inl ⟨rfl, rfl⟩), (h183 _ _ c0), rfl, ?_⟩
              refine ⟨_, rfl, ?_⟩
              refine ⟨_, _, ((Ow.Tf_Kind.signed kd_w_2)), _, rfl, (h183 _ _ c0), (by walk_at "o2"), fun b_59 h330 p_61 Hn_119 h331 h332 h333 => ?_⟩
              refine ⟨_, rfl, ?_⟩
              refine ⟨_, rfl, ?_⟩
              refine ⟨_, _, _, _, _, rfl, h333, (by first | exact er | exact en | exact (by assumption : _ = true ↔ ¬ (Ow.kl _ ≤ number ∧ number ≤ Ow.kg _)).mpr (by omega) | exact Bool.eq_iff_iff.mpr ((by assumption : _ = true ↔ ¬ (Ow.kl _ ≤ number ∧ number ≤ Ow.kg _)).trans (by rw [decide_eq_true_eq]; omega)) | omega), (by first | exact er | exact en | exact (by assumption : _ = true ↔ ¬ (Ow.kl _ ≤ number ∧ number ≤ Ow.kg _)).mpr (by omega) | exact Bool.eq_iff_iff.mpr ((by assumption : _ = true ↔ ¬ (Ow.kl _ ≤ number ∧ number ≤ Ow.kg _)).trans (by rw [decide_eq_true_eq]; omega)) | omega), fun Hn_120 h334 => ?_⟩
              refine ⟨_, rfl, ?_⟩
              refine iteT ?_
              refine ⟨_, rfl, ?_⟩
              refine ⟨_, _, _, _, _, rfl, .inr (.inl ⟨rfl, rfl⟩), (h334 _ _ (h331 _ _ (h183 _ _ c0))), rfl, ?_⟩
              refine ⟨_, rfl, ?_⟩
              refine ⟨_, _, ((Ow.Tf_Kind.signed kd_w_2)), _, rfl, (h334 _ _ (h331 _ _ (h183 _ _ c0))), (by walk_at "o2"), fun b_60 h335 p_62 Hn_121 h336 h337 h338 => ?_⟩
              refine ⟨_, rfl, ?_⟩
              refine ⟨_, rfl, ?_⟩
              refine ⟨_, _, _, _, _, rfl, h338, (by first | exact er | exact en | exact (by assumption : _ = true ↔ ¬ (Ow.kl _ ≤ number ∧ number ≤ Ow.kg _)).mpr (by omega) | exact Bool.eq_iff_iff.mpr ((by assumption : _ = true ↔ ¬ (Ow.kl _ ≤ number ∧ number ≤ Ow.kg _)).trans (by rw [decide_eq_true_eq]; omega)) | omega), (by first | exact er | exact en | exact (by assumption : _ = true ↔ ¬ (Ow.kl _ ≤ number ∧ number ≤ Ow.kg _)).mpr (by omega) | exact Bool.eq_iff_iff.mpr ((by assumption : _ = true ↔ ¬ (Ow.kl _ ≤ number ∧ number ≤ Ow.kg _)).trans (by rw [decide_eq_true_eq]; omega)) | omega), fun Hn_122 h339 => ?_⟩
              exact kont _ ((((h183.trans h331).trans h334).trans h336).trans h339)
          · refine ⟨_, rfl, ?_⟩
            refine ⟨_, _, rfl, rfl, ?_⟩
            refine ⟨_, rfl, ?_⟩
            refine Ow.ifd (fun h340 => ?_) (fun h340 => ?_)
            · refine ⟨_, rfl, ?_⟩
              refine ⟨_, rfl, ?_⟩
              refine ⟨_, _, rfl, rfl, ?_⟩
              refine ⟨_, rfl, fun l_nearest_16 h_l_nearest_16 => ?_⟩
              refine ⟨_, rfl, ?_⟩
              refine ⟨_, rfl, ?_⟩
              refine ⟨_, rfl, ?_⟩
              refine ⟨_, _, rfl, rfl, (by walk_at "o2"), fun q_31 h_q_31 => ?_⟩
              refine ⟨_, rfl, ?_⟩
              refine ⟨_, _, rfl, rfl, (by walk_at "o2"), fun m_31 h_m_31 => ?_⟩
              refine ⟨_, _, rfl, rfl, ?_⟩
              refine ⟨_, rfl, fun l_rest_31 h_l_rest_31 => ?_⟩
              refine Ow.gnmS (σ' := [_, _, _, _, _, _, _, _]) rfl ?_
              have er := Ow.rest_of (n := number) (s := l_size_2) (by assumption) (by assumption) h_l_rest_31 h_l_size_2
              have en := Ow.near_of (kd := _) (n := number) (N := l_nearest_16) (S := l_size_2) h_l_size_2 hl hg (by omega) (by omega) (by omega) (by omega) (by omega)
              refine ⟨_, rfl, ?_⟩
              refine ⟨_, _, _, _, _, rfl, .inr (.inl ⟨rfl, rfl⟩), (h183 _ _ c0), rfl, ?_⟩
              refine ⟨_, rfl, ?_⟩
              refine ⟨_, _, ((Ow.Tf_Kind.signed kd_w_2)), _, rfl, (h183 _ _ c0), (by walk_at "o2"), fun b_61 h341 p_63 Hn_123 h342 h343 h344 => ?_⟩
              refine ⟨_, rfl, ?_⟩
              refine ⟨_, rfl, ?_⟩
              refine ⟨_, _, _, _, _, rfl, h344, (by first | exact er | exact en | exact (by assumption : _ = true ↔ ¬ (Ow.kl _ ≤ number ∧ number ≤ Ow.kg _)).mpr (by omega) | exact Bool.eq_iff_iff.mpr ((by assumption : _ = true ↔ ¬ (Ow.kl _ ≤ number ∧ number ≤ Ow.kg _)).trans (by rw [decide_eq_true_eq]; omega)) | omega), (by first | exact er | exact en | exact (by assumption : _ = true ↔ ¬ (Ow.kl _ ≤ number ∧ number ≤ Ow.kg _)).mpr (by omega) | exact Bool.eq_iff_iff.mpr ((by assumption : _ = true ↔ ¬ (Ow.kl _ ≤ number ∧ number ≤ Ow.kg _)).trans (by rw [decide_eq_true_eq]; omega)) | omega), fun Hn_124 h345 => ?_⟩
              refine ⟨_, rfl, ?_⟩
              refine iteT ?_
              refine ⟨_, rfl, ?_⟩
              refine ⟨_, _, _, _, _, rfl, .inr (.inl ⟨rfl, rfl⟩), (h345 _ _ (h342 _ _ (h183 _ _ c0))), rfl, ?_⟩
              refine ⟨_, rfl, ?_⟩
              refine ⟨_, _, ((Ow.Tf_Kind.signed kd_w_2)), _, rfl, (h345 _ _ (h342 _ _ (h183 _ _ c0))), (by walk_at "o2"), fun b_62 h346 p_64 Hn_125 h347 h348 h349 => ?_⟩
              refine ⟨_, rfl, ?_⟩
              refine ⟨_, rfl, ?_⟩
              refine ⟨_, _, _, _, _, rfl, h349, (by first | exact er | exact en | exact (by assumption : _ = true ↔ ¬ (Ow.kl _ ≤ number ∧ number ≤ Ow.kg _)).mpr (by omega) | exact Bool.eq_iff_iff.mpr ((by assumption : _ = true ↔ ¬ (Ow.kl _ ≤ number ∧ number ≤ Ow.kg _)).trans (by rw [decide_eq_true_eq]; omega)) | omega), (by first | exact er | exact en | exact (by assumption : _ = true ↔ ¬ (Ow.kl _ ≤ number ∧ number ≤ Ow.kg _)).mpr (by omega) | exact Bool.eq_iff_iff.mpr ((by assumption : _ = true ↔ ¬ (Ow.kl _ ≤ number ∧ number ≤ Ow.kg _)).trans (by rw [decide_eq_true_eq]; omega)) | omega), fun Hn_126 h350 => ?_⟩
              exact kont _ ((((h183.trans h342).trans h345).trans h347).trans h350)
            · refine ⟨_, rfl, ?_⟩
              refine ⟨_, rfl, ?_⟩
              refine ⟨_, rfl, ?_⟩
              refine ⟨_, _, rfl, rfl, (by walk_at "o2"), fun q_32 h_q_32 => ?_⟩
              refine ⟨_, rfl, ?_⟩
              refine ⟨_, _, rfl, rfl, (by walk_at "o2"), fun m_32 h_m_32 => ?_⟩
              refine ⟨_, _, rfl, rfl, ?_⟩
              refine ⟨_, rfl, fun l_rest_32 h_l_rest_32 => ?_⟩
              refine Ow.gnmS (σ' := [_, _, _, _, _, _, _, _]) rfl ?_
              have er := Ow.rest_of (n := number) (s := l_size_2) (by assumption) (by assumption) h_l_rest_32 h_l_size_2
              have en := Ow.near_of (kd := _) (n := number) (N := number) (S := l_size_2) h_l_size_2 hl hg (by omega) (by omega) (by omega) (by omega) (by omega)
              refine ⟨_, rfl, ?_⟩
              refine ⟨_, _, _, _, _, rfl, .inr (.inl ⟨rfl, rfl⟩), (h183 _ _ c0), rfl, ?_⟩
              refine ⟨_, rfl, ?_⟩
              refine ⟨_, _, ((Ow.Tf_Kind.signed kd_w_2)), _, rfl, (h183 _ _ c0), (by walk_at "o2"), fun b_63 h351 p_65 Hn_127 h352 h353 h354 => ?_⟩
              refine ⟨_, rfl, ?_⟩
              refine ⟨_, rfl, ?_⟩
              refine ⟨_, _, _, _, _, rfl, h354, (by first | exact er | exact en | exact (by assumption : _ = true ↔ ¬ (Ow.kl _ ≤ number ∧ number ≤ Ow.kg _)).mpr (by omega) | exact Bool.eq_iff_iff.mpr ((by assumption : _ = true ↔ ¬ (Ow.kl _ ≤ number ∧ number ≤ Ow.kg _)).trans (by rw [decide_eq_true_eq]; omega)) | omega), (by first | exact er | exact en | exact (by assumption : _ = true ↔ ¬ (Ow.kl _ ≤ number ∧ number ≤ Ow.kg _)).mpr (by omega) | exact Bool.eq_iff_iff.mpr ((by assumption : _ = true ↔ ¬ (Ow.kl _ ≤ number ∧ number ≤ Ow.kg _)).trans (by rw [decide_eq_true_eq]; omega)) | omega), fun Hn_128 h355 => ?_⟩
              refine ⟨_, rfl, ?_⟩
              refine iteT ?_
              refine ⟨_, rfl, ?_⟩
              refine ⟨_, _, _, _, _, rfl, .inr (.inl ⟨rfl, rfl⟩), (h355 _ _ (h352 _ _ (h183 _ _ c0))), rfl, ?_⟩
              refine ⟨_, rfl, ?_⟩
              refine ⟨_, _, ((Ow.Tf_Kind.signed kd_w_2)), _, rfl, (h355 _ _ (h352 _ _ (h183 _ _ c0))), (by walk_at "o2"), fun b_64 h356 p_66 Hn_129 h357 h358 h359 => ?_⟩
              refine ⟨_, rfl, ?_⟩
              refine ⟨_, rfl, ?_⟩
              refine ⟨_, _, _, _, _, rfl, h359, (by first | exact er | exact en | exact (by assumption : _ = true ↔ ¬ (Ow.kl _ ≤ number ∧ number ≤ Ow.kg _)).mpr (by omega) | exact Bool.eq_iff_iff.mpr ((by assumption : _ = true ↔ ¬ (Ow.kl _ ≤ number ∧ number ≤ Ow.kg _)).trans (by rw [decide_eq_true_eq]; omega)) | omega), (by first | exact er | exact en | exact (by assumption : _ = true ↔ ¬ (Ow.kl _ ≤ number ∧ number ≤ Ow.kg _)).mpr (by omega) | exact Bool.eq_iff_iff.mpr ((by assumption : _ = true ↔ ¬ (Ow.kl _ ≤ number ∧ number ≤ Ow.kg _)).trans (by rw [decide_eq_true_eq]; omega)) | omega), fun Hn_130 h360 => ?_⟩
              exact kont _ ((((h183.trans h352).trans h355).trans h357).trans h360)
    · replace c0 : H kind = some (.ins T.k_Pointed.C dx_kind [(("width" : Str), V.int (kd_w_3)), (("point" : Str), V.int (kd_p))]) := c0
      replace c1 : H spec = some (.tup [.str ("point"), .int (kd_w_3), .int (kd_p)]) := c1
      have hk := Ow.krng c2
      have hl := Ow.kle c2
      have hg := Ow.kge c2
      simp only [Ow.KOk] at c2
      simp only [Ow.kw] at hk
      simp only [Ow.kle1] at hl
      simp only [Ow.kge1] at hg
      refine ⟨_, rfl, ?_⟩
      refine ⟨_, ((Ow.Tf_Kind.point kd_w_3 kd_p)), rfl, c1, (by walk_at "o2"), fun lo_3 hi_3 h361 h362 p_67 Hn_131 h363 h364 h365 => ?_⟩
      refine Ow.gnmS (σ' := [_, _, _, _, _, _, _, _]) rfl ?_
      refine ⟨_, rfl, ?_⟩
      refine ⟨_, _, _, _, rfl, rfl, (SqT.of (h363 _ _ c1)), (by first | rfl | decide), ?_⟩
      refine ⟨_, rfl, rfl, (by walk_at "o2"), fun l_size_3 h_l_size_3 h0_l_size_3 => ?_⟩
      refine Ow.gnmS (σ' := [_, _, _, _, _, _, _, _]) rfl ?_
      refine ⟨_, rfl, ?_⟩
      refine ⟨_, rfl, ?_⟩
      refine ⟨_, _, _, _, rfl, rfl, (SqT.of h365), (by first | rfl | decide), ?_⟩
      refine ⟨_, _, rfl, rfl, ?_⟩
      refine ⟨_, rfl, ?_⟩
      refine Ow.ifd (fun h366 => ?_) (fun h366 => ?_)
      · refine Ow.gnmS (σ' := [_, _, _, _, _, _, _, _]) rfl ?_
        refine ⟨_, rfl, ?_⟩
        refine Ow.gnmS (σ' := [_, _, _, _, _, _, _, _]) rfl ?_
        refine ⟨_, rfl, ?_⟩
        refine ⟨_, rfl, ?_⟩
        refine ⟨_, _, _, _, rfl, rfl, (SqT.of h365), (by first | rfl | decide), ?_⟩
        refine ⟨_, _, rfl, rfl, ?_⟩
        refine ⟨_, rfl, ?_⟩
        refine Ow.ifd (fun h367 => ?_) (fun h367 => ?_)
        · refine ⟨_, rfl, ?_⟩
          refine ⟨_, _, _, _, rfl, rfl, (SqT.of h365), (by first | rfl | decide), ?_⟩
          refine ⟨_, rfl, ?_⟩
          refine ⟨_, rfl, ?_⟩
          refine ⟨_, _, _, _, rfl, rfl, (SqT.of h365), (by first | rfl | decide), ?_⟩
          refine ⟨_, _, rfl, rfl, ?_⟩
          refine ⟨_, rfl, ?_⟩
          refine Ow.ifd (fun h368 => ?_) (fun h368 => ?_)
          · refine ⟨_, rfl, ?_⟩
            refine ⟨_, _, _, _, rfl, rfl, (SqT.of h365), (by first | rfl | decide), ?_⟩
            refine ⟨_, rfl, ?_⟩
            refine ⟨_, _, rfl, rfl, ?_⟩
            refine ⟨_, rfl, ?_⟩
            refine Ow.ifd (fun h369 => ?_) (fun h369 => ?_)
            · refine ⟨_, rfl, ?_⟩
              refine ⟨_, rfl, ?_⟩
              refine ⟨_, _, rfl, rfl, ?_⟩
              refine ⟨_, rfl, fun l_nearest_17 h_l_nearest_17 => ?_⟩
              refine ⟨_, rfl, ?_⟩
              refine ⟨_, rfl, ?_⟩
              refine ⟨_, rfl, ?_⟩
              refine ⟨_, _, rfl, rfl, (by walk_at "o2"), fun q_33 h_q_33 => ?_⟩
              refine ⟨_, rfl, ?_⟩
              refine ⟨_, _, rfl, rfl, (by walk_at "o2"), fun m_33 h_m_33 => ?_⟩
              refine ⟨_, _, rfl, rfl, ?_⟩
              refine ⟨_, rfl, fun l_rest_33 h_l_rest_33 => ?_⟩
              refine Ow.gnmS (σ' := [_, _, _, _, _, _, _, _]) rfl ?_
              have er := Ow.rest_of (n := number) (s := l_size_3) (by assumption) (by assumption) h_l_rest_33 h_l_size_3
              have en := Ow.near_of (kd := _) (n := number) (N := l_nearest_17) (S := l_size_3) h_l_size_3 hl hg (by omega) (by omega) (by omega) (by omega) (by omega)
              refine ⟨_, rfl, ?_⟩
              refine ⟨_, _, _, _, _, rfl, .inr (.inr (⟨rfl, rfl⟩)), (h363 _ _ c0), rfl, ?_⟩
              refine ⟨_, rfl, ?_⟩
              refine ⟨_, _, ((Ow.Tf_Kind.point kd_w_3 kd_p)), _, rfl, (h363 _ _ c0), (by walk_at "o2"), fun b_65 h370 p_68 Hn_132 h371 h372 h373 => ?_⟩
              refine ⟨_, rfl, ?_⟩
              refine ⟨_, rfl, ?_⟩
              refine ⟨_, _, _, _, _, rfl, h373, (by first | exact er | exact en | exact (by assumption : _ = true ↔ ¬ (Ow.kl _ ≤ number ∧ number ≤ Ow.kg _)).mpr (by omega) | exact Bool.eq_iff_iff.mpr ((by assumption : _ = true ↔ ¬ (Ow.kl _ ≤ number ∧ number ≤ Ow.kg _)).trans (by rw [decide_eq_true_eq]; omega)) | omega), (by first | exact er | exact en | exact (by assumption : _ = true ↔ ¬ (Ow.kl _ ≤ number ∧ number ≤ Ow.kg _)).mpr (by omega) | exact Bool.eq_iff_iff.mpr ((by assumption : _ = true ↔ ¬ (Ow.kl _ ≤ number ∧ number ≤ Ow.kg _)).trans (by rw [decide_eq_true_eq]; omega)) | omega), fun Hn_133 h374 => ?_⟩
              refine ⟨_, rfl, ?_⟩
              refine iteT ?_
              refine ⟨_, rfl, ?_⟩
              refine ⟨_, _, _, _, _, rfl, .inr (.inr (⟨rfl, rfl⟩)), (h374 _ _ (h371 _ _ (h363 _ _ c0))), rfl, ?_⟩
              refine ⟨_, rfl, ?_⟩
              refine ⟨_, _, ((Ow.Tf_Kind.point kd_w_3 kd_p)), _, rfl, (h374 _ _ (h371 _ _ (h363 _ _ c0))), (by walk_at "o2"), fun b_66 h375 p_69 Hn_134 h376 h377 h378 => ?_⟩
              refine ⟨_, rfl, ?_⟩
              refine ⟨_, rfl, ?_⟩
              refine ⟨_, _, _, _, _, rfl, h378, (by first | exact er | exact en | exact (by assumption : _ = true ↔ ¬ (Ow.kl _ ≤ number ∧ number ≤ Ow.kg _)).mpr (by omega) | exact Bool.eq_iff_iff.mpr ((by assumption : _ = true ↔ ¬ (Ow.kl _ ≤ number ∧ number ≤ Ow.kg _)).trans (by rw [decide_eq_true_eq]; omega)) | omega), (by first | exact er | exact en | exact (by assumption : _ = true ↔ ¬ (Ow.kl _ ≤ number ∧ number ≤ Ow.kg _)).mpr (by omega) | exact Bool.eq_iff_iff.mpr ((by assumption : _ = true ↔ ¬ (Ow.kl _ ≤ number ∧ number ≤ Ow.kg _)).trans (by rw [decide_eq_true_eq]; omega)) | omega), fun Hn_135 h379 => ?_⟩
              exact kont _ ((((h363.trans h371).trans h374).trans h376).trans h379)
            · refine ⟨_, rfl, ?_⟩
              refine ⟨_, rfl, ?_⟩
              refine ⟨_, rfl, ?_⟩
              refine ⟨_, _, rfl, rfl, (by walk_at "o2"), fun q_34 h_q_34 => ?_⟩
              refine ⟨_, rfl, ?_⟩
              refine ⟨_, _, rfl, rfl, (by walk_at "o2"), fun m_34 h_m_34 => ?_⟩
              refine ⟨_, _, rfl, rfl, ?_⟩
              refine ⟨_, rfl, fun l_rest_34 h_l_rest_34 => ?_⟩
              refine Ow.gnmS (σ' := [_, _, _, _, _, _, _, _]) rfl ?_
              have er := Ow.rest_of (n := number) (s := l_size_3) (by assumption) (by assumption) h_l_rest_34 h_l_size_3
              have en := Ow.near_of (kd := _) (n := number) (N := hi_3) (S := l_size_3) h_l_size_3 hl hg (by omega) (by omega) (by omega) (by omega) (by omega)
              refine ⟨_, rfl, ?_⟩
              refine ⟨_, _, _, _, _, rfl, .inr (.inr (⟨rfl, rfl⟩)), (h363 _ _ c0), rfl, ?_⟩
              refine ⟨_, rfl, ?_⟩
              refine ⟨_, _, ((Ow.Tf_Kind.point kd_w_3 kd_p)), _, rfl, (h363 _ _ c0), (by walk_at "o2"), fun b_67 h380 p_70 Hn_136 h381 h382 h383 => ?_⟩
              refine ⟨_, rfl, ?_⟩
              refine ⟨_, rfl, ?_⟩
              refine ⟨_, _, _, _, _, rfl, h383, (by first | exact er | exact en | exact (by assumption : _ = true ↔ ¬ (Ow.kl _ ≤ number ∧ number ≤ Ow.kg _)).mpr (by omega) | exact Bool.eq_iff_iff.mpr ((by assumption : _ = true ↔ ¬ (Ow.kl _ ≤ number ∧ number ≤ Ow.kg _)).trans (by rw [decide_eq_true_eq]; omega)) | omega), (by first | exact er | exact en | exact (by assumption : _ = true ↔ ¬ (Ow.kl _ ≤ number ∧ number ≤ Ow.kg _)).mpr (by omega) | exact Bool.eq_iff_iff.mpr ((by assumption : _ = true ↔ ¬ (Ow.kl _ ≤ number ∧ number ≤ Ow.kg _)).trans (by rw [decide_eq_true_eq]; omega)) | omega), fun Hn_137 h384 => ?_⟩
              refine ⟨_, rfl, ?_⟩
              refine iteT ?_
              refine ⟨_, rfl, ?_⟩
              refine ⟨_, _, _, _, _, rfl, .inr (.inr (⟨rfl, rfl⟩)), (h384 _ _ (h381 _ _ (h363 _ _ c0))), rfl, ?_⟩
              refine ⟨_, rfl, ?_⟩
              refine ⟨_, _, ((Ow.Tf_Kind.point kd_w_3 kd_p)), _, rfl, (h384 _ _ (h381 _ _ (h363 _ _ c0))), (by walk_at "o2"), fun b_68 h385 p_71 Hn_138 h386 h387 h388 => ?_⟩
              refine ⟨_, rfl, ?_⟩
              refine ⟨_, rfl, ?_⟩
              refine ⟨_, _, _, _, _, rfl, h388, (by first | exact er | exact en | exact (by assumption : _ = true ↔ ¬ (Ow.kl _ ≤ number ∧ number ≤ Ow.kg _)).mpr (by omega) | exact Bool.eq_iff_iff.mpr ((by assumption : _ = true ↔ ¬ (Ow.kl _ ≤ number ∧ number ≤ Ow.kg _)).trans (by rw [decide_eq_true_eq]; omega)) | omega), (by first | exact er | exact en | exact (by assumption : _ = true ↔ ¬ (Ow.kl _ ≤ number ∧ number ≤ Ow.kg _)).mpr (by omega) | exact Bool.eq_iff_iff.mpr ((by assumption : _ = true ↔ ¬ (Ow.kl _ ≤ number ∧ number ≤ Ow.kg _)).trans (by rw [decide_eq_true_eq]; omega)) | omega), fun Hn_139 h389 => ?_⟩
              exact kont _ ((((h363.trans h381).trans h384).trans h386).trans h389)
          · refine ⟨_, rfl, ?_⟩
            refine ⟨_, _, rfl, rfl, ?_⟩
            refine ⟨_, rfl, ?_⟩
            refine Ow.ifd (fun h390 => ?_) (fun h390 => ?_)
            · refine ⟨_, rfl, ?_⟩
              refine ⟨_, rfl, ?_⟩
              refine ⟨_, _, rfl, rfl, ?_⟩
              refine ⟨_, rfl, fun l_nearest_18 h_l_nearest_18 => ?_⟩
              refine ⟨_, rfl, ?_⟩
              refine ⟨_, rfl, ?_⟩
              refine ⟨_, rfl, ?_⟩
              refine ⟨_, _, rfl, rfl, (by walk_at "o2"), fun q_35 h_q_35 => ?_⟩
              refine ⟨_, rfl, ?_⟩
              refine ⟨_, _, rfl, rfl, (by walk_at "o2"), fun m_35 h_m_35 => ?_⟩
              refine ⟨_, _, rfl, rfl, ?_⟩
              refine ⟨_, rfl, fun l_rest_35 h_l_rest_35 => ?_⟩
              refine Ow.gnmS (σ' := [_, _, _, _, _, _, _, _]) rfl ?_
              have er := Ow.rest_of (n := number) (s := l_size_3) (by assumption) (by assumption) h_l_rest_35 h_l_size_3
              have en := Ow.near_of (kd := _) (n := number) (N := l_nearest_18) (S := l_size_3) h_l_size_3 hl hg (by omega) (by omega) (by omega) (by omega) (by omega)
              refine ⟨_, rfl, ?_⟩
              refine ⟨_, _, _, _, _, rfl, .inr (.inr (⟨rfl, rfl⟩)), (h363 _ _ c0), rfl, ?_⟩
              refine ⟨_, rfl, ?_⟩
              refine ⟨_, _, ((Ow.Tf_Kind.point kd_w_3 kd_p)), _, rfl, (h363 _ _ c0), (by walk_at "o2"), fun b_69 h391 p_72 Hn_140 h392 h393 h394 => ?_⟩
              refine ⟨_, rfl, ?_⟩
              refine ⟨_, rfl, ?_⟩
              refine ⟨_, _, _, _, _, rfl, h394, (by first | exact er | exact en | exact (by assumption : _ = true ↔ ¬ (Ow.kl _ ≤ number ∧ number ≤ Ow.kg _)).mpr (by omega) | exact Bool.eq_iff_iff.mpr ((by assumption : _ = true ↔ ¬ (Ow.kl _ ≤ number ∧ number ≤ Ow.kg _)).trans (by rw [decide_eq_true_eq]; omega)) | omega), (by first | exact er | exact en | exact (by assumption : _ = true ↔ ¬ (Ow.kl _ ≤ number ∧ number ≤ Ow.kg _)).mpr (by omega) | exact Bool.eq_iff_iff.mpr ((by assumption : _ = true ↔ ¬ (Ow.kl _ ≤ number ∧ number ≤ Ow.kg _)).trans (by rw [decide_eq_true_eq]; omega)) | omega), fun Hn_141 h395 => ?_⟩
              refine ⟨_, rfl, ?_⟩
              refine iteT ?_
              refine ⟨_, rfl, ?_⟩
              refine ⟨_, _, _, _, _, rfl, .inr (.inr (⟨rfl, rfl⟩)), (h395 _ _ (h392 _ _ (h363 _ _ c0))), rfl, ?_⟩
              refine ⟨_, rfl, ?_⟩
              refine ⟨_, _, ((Ow.Tf_Kind.point kd_w_3 kd_p)), _, rfl, (h395 _ _ (h392 _ _ (h363 _ _ c0))), (by walk_at "o2"), fun b_70 h396 p_73 Hn_142 h397 h398 h399 => ?_⟩
              refine ⟨_, rfl, ?_⟩
              refine ⟨_, rfl, ?_⟩
              refine ⟨_, _, _, _, _, rfl, h399, (by first | exact er | exact en | exact (by assumption : _ = true ↔ ¬ (Ow.kl _ ≤ number ∧ number ≤ Ow.kg _)).mpr (by omega) | exact Bool.eq_iff_iff.mpr ((by assumption : _ = true ↔ ¬ (Ow.kl _ ≤ number ∧ number ≤ Ow.kg _)).trans (by rw [decide_eq_true_eq]; omega)) | omega), (by first | exact er | exact en | exact (by assumption : _ = true ↔ ¬ (Ow.kl _ ≤ number ∧ number ≤ Ow.kg _)).mpr (by omega) | exact Bool.eq_iff_iff.mpr ((by assumption : _ = true ↔ ¬ (Ow.kl _ ≤ number ∧ number ≤ Ow.kg _)).trans (by rw [decide_eq_true_eq]; omega)) | omega), fun Hn_143 h400 => ?_⟩
              exact kont _ ((((h363.trans h392).trans h395).trans h397).trans h400)
            · refine ⟨_, rfl, ?_⟩
              refine ⟨_, rfl, ?_⟩
              refine ⟨_, rfl, ?_⟩
              refine ⟨_, _, rfl, rfl, (by walk_at "o2"), fun q_36 h_q_36 => ?_⟩
              refine ⟨_, rfl, ?_⟩
              refine ⟨_, _, rfl, rfl, (by walk_at "o2"), fun m_36 h_m_36 => ?_⟩
              refine ⟨_, _, rfl, rfl, ?_⟩
              refine ⟨_, rfl, fun l_rest_36 h_l_rest_36 => ?_⟩
              refine Ow.gnmS (σ' := [_, _, _, _, _, _, _, _]) rfl ?_
              have er := Ow.rest_of (n := number) (s := l_size_3) (by assumption) (by assumption) h_l_rest_36 h_l_size_3
              have en := Ow.near_of (kd := _) (n := number) (N := lo_3) (S := l_size_3) h_l_size_3 hl hg (by omega) (by omega) (by omega) (by omega) (by omega)
              refine ⟨_, rfl, ?_⟩
              refine ⟨_, _, _, _, _, rfl, .inr (.inr (⟨rfl, rfl⟩)), (h363 _ _ c0), rfl, ?_⟩
              refine ⟨_, rfl, ?_⟩
              refine ⟨_, _, ((Ow.Tf_Kind.point kd_w_3 kd_p)), _, rfl, (h363 _ _ c0), (by walk_at "o2"), fun b_71 h401 p_74 Hn_144 h402 h403 h404 => ?_⟩
              refine ⟨_, rfl, ?_⟩
              refine ⟨_, rfl, ?_⟩
              refine ⟨_, _, _, _, _, rfl, h404, (by first | exact er | exact en | exact (by assumption : _ = true ↔ ¬ (Ow.kl _ ≤ number ∧ number ≤ Ow.kg _)).mpr (by omega) | exact Bool.eq_iff_iff.mpr ((by assumption : _ = true ↔ ¬ (Ow.kl _ ≤ number ∧ number ≤ Ow.kg _)).trans (by rw [decide_eq_true_eq]; omega)) | omega), (by first | exact er | exact en | exact (by assumption : _ = true ↔ ¬ (Ow.kl _ ≤ number ∧ number ≤ Ow.kg _)).mpr (by omega) | exact Bool.eq_iff_iff.mpr ((by assumption : _ = true ↔ ¬ (Ow.kl _ ≤ number ∧ number ≤ Ow.kg _)).trans (by rw [decide_eq_true_eq]; omega)) | omega), fun Hn_145 h405 => ?_⟩
              refine ⟨_, rfl, ?_⟩
              refine iteT ?_
              refine ⟨_, rfl, ?_⟩
              refine ⟨_, _, _, _, _, rfl, .inr (.inr (⟨rfl, rfl⟩)), (h405 _ _ (h402 _ _ (h363 _ _ c0))), rfl, ?_⟩
              refine ⟨_, rfl, ?_⟩
              refine ⟨_, _, ((Ow.Tf_Kind.point kd_w_3 kd_p)), _, rfl, (h405 _ _ (h402 _ _ (h363 _ _ c0))), (by walk_at "o2"), fun b_72 h406 p_75 Hn_146 h407 h408 h409 => ?_⟩
              refine ⟨_, rfl, ?_⟩
              refine ⟨_, rfl, ?_⟩
              refine ⟨_, _, _, _, _, rfl, h409, (by first | exact er | exact en | exact (by assumption : _ = true ↔ ¬ (Ow.kl _ ≤ number ∧ number ≤ Ow.kg _)).mpr (by omega) | exact Bool.eq_iff_iff.mpr ((by assumption : _ = true ↔ ¬ (Ow.kl _ ≤ number ∧ number ≤ Ow.kg _)).trans (by rw [decide_eq_true_eq]; omega)) | omega), (by first | exact er | exact en | exact (by assumption : _ = true ↔ ¬ (Ow.kl _ ≤ number ∧ number ≤ Ow.kg _)).mpr (by omega) | exact Bool.eq_iff_iff.mpr ((by assumption : _ = true ↔ ¬ (Ow.kl _ ≤ number ∧ number ≤ Ow.kg _)).trans (by rw [decide_eq_true_eq]; omega)) | omega), fun Hn_147 h410 => ?_⟩
              exact kont _ ((((h363.trans h402).trans h405).trans h407).trans h410)
        · refine ⟨_, rfl, ?_⟩
          refine ⟨_, rfl, ?_⟩
          refine ⟨_, _, _, _, rfl, rfl, (SqT.of h365), (by first | rfl | decide), ?_⟩
          refine ⟨_, _, rfl, rfl, ?_⟩
          refine ⟨_, rfl, ?_⟩
          refine Ow.ifd (fun h411 => ?_) (fun h411 => ?_)
          · refine ⟨_, rfl, ?_⟩
            refine ⟨_, _, _, _, rfl, rfl, (SqT.of h365), (by first | rfl | decide), ?_⟩
            refine ⟨_, rfl, ?_⟩
            refine ⟨_, _, rfl, rfl, ?_⟩
            refine ⟨_, rfl, ?_⟩
            refine Ow.ifd (fun h412 => ?_) (fun h412 => ?_)
            · refine ⟨_, rfl, ?_⟩
              refine ⟨_, rfl, ?_⟩
              refine ⟨_, _, rfl, rfl, ?_⟩
              refine ⟨_, rfl, fun l_nearest_19 h_l_nearest_19 => ?_⟩
              refine ⟨_, rfl, ?_⟩
              refine ⟨_, rfl, ?_⟩
              refine ⟨_, rfl, ?_⟩
              refine ⟨_, _, rfl, rfl, (by walk_at "o2"), fun q_37 h_q_37 => ?_⟩
              refine ⟨_, rfl, ?_⟩
              refine ⟨_, _, rfl, rfl, (by walk_at "o2"), fun m_37 h_m_37 => ?_⟩
              refine ⟨_, _, rfl, rfl, ?_⟩
              refine ⟨_, rfl, fun l_rest_37 h_l_rest_37 => ?_⟩
              refine Ow.gnmS (σ' := [_, _, _, _, _, _, _, _]) rfl ?_
              have er := Ow.rest_of (n := number) (s := l_size_3) (by assumption) (by assumption) h_l_rest_37 h_l_size_3
              have en := Ow.near_of (kd := _) (n := number) (N := l_nearest_19) (S := l_size_3) h_l_size_3 hl hg (by omega) (by omega) (by omega) (by omega) (by omega)
              refine ⟨_, rfl, ?_⟩
              refine ⟨_, _, _, _, _, rfl, .inr (.inr (⟨rfl, rfl⟩)), (h363 _ _ c0), rfl, ?_⟩
              refine ⟨_, rfl, ?_⟩
              refine ⟨_, _, ((Ow.Tf_Kind.point kd_w_3 kd_p)), _, rfl, (h363 _ _ c0), (by walk_at "o2"), fun b_73 h413 p_76 Hn_148 h414 h415 h416 => ?_⟩
              refine ⟨_, rfl, ?_⟩
              refine ⟨_, rfl, ?_⟩
              refine ⟨_, _, _, _, _, rfl, h416, (by first | exact er | exact en | exact (by assumption : _ = true ↔ ¬ (Ow.kl _ ≤ number ∧ number ≤ Ow.kg _)).mpr (by omega) | exact Bool.eq_iff_iff.mpr ((by assumption : _ = true ↔ ¬ (Ow.kl _ ≤ number ∧ number ≤ Ow.kg _)).trans (by rw [decide_eq_true_eq]; omega)) | omega), (by first | exact er | exact en | exact (by assumption : _ = true ↔ ¬ (Ow.kl _ ≤ number ∧ number ≤ Ow.kg _)).mpr (by omega) | exact Bool.eq_iff_iff.mpr ((by assumption : _ = true ↔ ¬ (Ow.kl _ ≤ number ∧ number ≤ Ow.kg _)).trans (by rw [decide_eq_true_eq]; omega)) | omega), fun Hn_149 h417 => ?_⟩
              refine ⟨_, rfl, ?_⟩
              refine iteT ?_
              refine ⟨_, rfl, ?_⟩
              refine ⟨_, _, _, _, _, rfl, .inr (.inr (⟨rfl, rfl⟩)), (h417 _ _ (h414 _ _ (h363 _ _ c0))), rfl, ?_⟩
              refine ⟨_, rfl, ?_⟩
              refine ⟨_, _, ((Ow.Tf_Kind.point kd_w_3 kd_p)), _, rfl, (h417 _ _ (h414 _ _ (h363 _ _ c0))), (by walk_at "o2"), fun b_74 h418 p_77 Hn_150 h419 h420 h421 => ?_⟩
              refine ⟨_, rfl, ?_⟩
              refine ⟨_, rfl, ?_⟩
              refine ⟨_, _, _, _, _, rfl, h421, (by first | exact er | exact en | exact (by assumption : _ = true ↔ ¬ (Ow.kl _ ≤ number ∧ number ≤ Ow.kg _)).mpr (by omega) | exact Bool.eq_iff_iff.mpr ((by assumption : _ = true ↔ ¬ (Ow.kl _ ≤ number ∧ number ≤ Ow.kg _)).trans (by rw [decide_eq_true_eq]; omega)) | omega), (by first | exact er | exact en | exact (by assumption : _ = true ↔ ¬ (Ow.kl _ ≤ number ∧ number ≤ Ow.kg _)).mpr (by omega) | exact Bool.eq_iff_iff.mpr ((by assumption : _ = true ↔ ¬ (Ow.kl _ ≤ number ∧ number ≤ Ow.kg _)).trans (by rw [decide_eq_true_eq]; omega)) | omega), fun Hn_151 h422 => ?_⟩
              exact kont _ ((((h363.trans h414).trans h417).trans h419).trans h422)
            · refine ⟨_, rfl, ?_⟩
              refine ⟨_, rfl, ?_⟩
              refine ⟨_, rfl, ?_⟩
              refine ⟨_, _, rfl, rfl, (by walk_at "o2"), fun q_38 h_q_38 => ?_⟩
              refine ⟨_, rfl, ?_⟩
              refine ⟨_, _, rfl, rfl, (by walk_at "o2"), fun m_38 h_m_38 => ?_⟩
              refine ⟨_, _, rfl, rfl, ?_⟩
              refine ⟨_, rfl, fun l_rest_38 h_l_rest_38 => ?_⟩
              refine Ow.gnmS (σ' := [_, _, _, _, _, _, _, _]) rfl ?_
              have er := Ow.rest_of (n := number) (s := l_size_3) (by assumption) (by assumption) h_l_rest_38 h_l_size_3
              have en := Ow.near_of (kd := _) (n := number) (N := hi_3) (S := l_size_3) h_l_size_3 hl hg (by omega) (by omega) (by omega) (by omega) (by omega)
              refine ⟨_, rfl, ?_⟩
              refine ⟨_, _, _, _, _, rfl, .inr (.inr (⟨rfl, rfl⟩)), (h363 _ _ c0), rfl, ?_⟩
              refine ⟨_, rfl, ?_⟩
              refine ⟨_, _, ((Ow.Tf_Kind.point kd_w_3 kd_p)), _, rfl, (h363 _ _ c0), (by walk_at "o2"), fun b_75 h423 p_78 Hn_152 h424 h425 h426 => ?_⟩
              refine ⟨_, rfl, ?_⟩
              refine ⟨_, rfl, ?_⟩
              refine ⟨_, _, _, _, _, rfl, h426, (by first | exact er | exact en | exact (by assumption : _ = true ↔ ¬ (Ow.kl _ ≤ number ∧ number ≤ Ow.kg _)).mpr (by omega) | exact Bool.eq_iff_iff.mpr ((by assumption : _ = true ↔ ¬ (Ow.kl _ ≤ number ∧ number ≤ Ow.kg _)).trans (by rw [decide_eq_true_eq]; omega)) | omega), (by first | exact er | exact en | exact (by assumption : _ = true ↔ ¬ (Ow.kl _ ≤ number ∧ number ≤ Ow.kg _)).mpr (by omega) | exact Bool.eq_iff_iff.mpr ((by assumption : _ = true ↔ ¬ (Ow.kl _ ≤ number ∧ number ≤ Ow.kg _)).trans (by rw [decide_eq_true_eq]; omega)) | omega), fun Hn_153 h427 => ?_⟩
              refine ⟨_, rfl, ?_⟩
              refine iteT ?_
              refine ⟨_, rfl, ?_⟩
              refine ⟨_, _, _, _, _, rfl, .inr (.inr (⟨rfl, rfl⟩)), (h427 _ _ (h424 _ _ (h363 _ _ c0))), rfl, ?_⟩
              refine ⟨_, rfl, ?_⟩
              refine ⟨_, _, ((Ow.Tf_Kind.point kd_w_3 kd_p)), _, rfl, (h427 _ _ (h424 _ _ (h363 _ _ c0))), (by walk_at "o2"), fun b_76 h428 p_79 Hn_154 h429 h430 h431 => ?_⟩
              refine ⟨_, rfl, ?_⟩
              refine ⟨_, rfl, ?_⟩
              refine ⟨_, _, _, _, _, rfl, h431, (by first | exact er | exact en | exact (by assumption : _ = true ↔ ¬ (Ow.kl _ ≤ number ∧ number ≤ Ow.kg _)).mpr (by omega) | exact Bool.eq_iff_iff.mpr ((by assumption : _ = true ↔ ¬ (Ow.kl _ ≤ number ∧ number ≤ Ow.kg _)).trans (by rw [decide_eq_true_eq]; omega)) | omega), (by first | exact er | exact en | exact (by assumption : _ = true ↔ ¬ (Ow.kl _ ≤ number ∧ number ≤ Ow.kg _)).mpr (by omega) | exact Bool.eq_iff_iff.mpr ((by assumption : _ = true ↔ ¬ (Ow.kl _ ≤ number ∧ number ≤ Ow.kg _)).trans (by rw [decide_eq_true_eq]; omega)) | omega), fun Hn_155 h432 => ?_⟩
              exact kont _ ((((h363.trans h424).trans h427).trans h429).trans h432)
          · refine ⟨_, rfl, ?_⟩
            refine ⟨_, _, rfl, rfl, ?_⟩
            refine ⟨_, rfl, ?_⟩
            refine Ow.ifd (fun h433 => ?_) (fun h433 => ?_)
            · refine ⟨_, rfl, ?_⟩
              refine ⟨_, rfl, ?_⟩
              refine ⟨_, _, rfl, rfl, ?_⟩
              refine ⟨_, rfl, fun l_nearest_20 h_l_nearest_20 => ?_⟩
              refine ⟨_, rfl, ?_⟩
              refine ⟨_, rfl, ?_⟩
              refine ⟨_, rfl, ?_⟩
              refine ⟨_, _, rfl, rfl, (by walk_at "o2"), fun q_39 h_q_39 => ?_⟩
              refine ⟨_, rfl, ?_⟩
              refine ⟨_, _, rfl, rfl, (by walk_at "o2"), fun m_39 h_m_39 => ?_⟩
              refine ⟨_, _, rfl, rfl, ?_⟩
              refine ⟨_, rfl, fun l_rest_39 h_l_rest_39 => ?_⟩
              refine Ow.gnmS (σ' := [_, _, _, _, _, _, _, _]) rfl ?_
              have er := Ow.rest_of (n := number) (s := l_size_3) (by assumption) (by assumption) h_l_rest_39 h_l_size_3
              have en := Ow.near_of (kd := _) (n := number) (N := l_nearest_20) (S := l_size_3) h_l_size_3 hl hg (by omega) (by omega) (by omega) (by omega) (by omega)
              refine ⟨_, rfl, ?_⟩
              refine ⟨_, _, _, _, _, rfl, .inr (.inr (⟨rfl, rfl⟩)), (h363 _ _ c0), rfl, ?_⟩
              refine ⟨_, rfl, ?_⟩
              refine ⟨_, _, ((Ow.Tf_Kind.point kd_w_3 kd_p)), _, rfl, (h363 _ _ c0), (by walk_at "o2"), fun b_77 h434 p_80 Hn_156 h435 h436 h437 => ?_⟩
              refine ⟨_, rfl, ?_⟩
              refine ⟨_, rfl, ?_⟩
              refine ⟨_, _, _, _, _, rfl, h437, (by first | exact er | exact en | exact (by assumption : _ = true ↔ ¬ (Ow.kl _ ≤ number ∧ number ≤ Ow.kg _)).mpr (by omega) | exact Bool.eq_iff_iff.mpr ((by assumption : _ = true ↔ ¬ (Ow.kl _ ≤ number ∧ number ≤ Ow.kg _)).trans (by rw [decide_eq_true_eq]; omega)) | omega), (by first | exact er | exact en | exact (by assumption : _ = true ↔ ¬ (Ow.kl _ ≤ number ∧ number ≤ Ow.kg _)).mpr (by omega) | exact Bool.eq_iff_iff.mpr ((by assumption : _ = true ↔ ¬ (Ow.kl _ ≤ number ∧ number ≤ Ow.kg _)).trans (by rw [decide_eq_true_eq]; omega)) | omega), fun Hn_157 h438 => ?_⟩
              refine ⟨_, rfl, ?_⟩
              refine iteT ?_
              refine ⟨_, rfl, ?_⟩
              refine ⟨_, _, _, _, _, rfl, .inr (.inr (⟨rfl, rfl⟩)), (h438 _ _ (h435 _ _ (h363 _ _ c0))), rfl, ?_⟩
              refine ⟨_, rfl, ?_⟩
              refine ⟨_, _, ((Ow.Tf_Kind.point kd_w_3 kd_p)), _, rfl, (h438 _ _ (h435 _ _ (h363 _ _ c0))), (by walk_at "o2"), fun b_78 h439 p_81 Hn_158 h440 h441 h442 => ?_⟩
              refine ⟨_, rfl, ?_⟩
              refine ⟨_, rfl, ?_⟩
              refine ⟨_, _, _, _, _, rfl, h442, (by first | exact er | exact en | exact (by assumption : _ = true ↔ ¬ (Ow.kl _ ≤ number ∧ number ≤ Ow.kg _)).mpr (by omega) | exact Bool.eq_iff_iff.mpr ((by assumption : _ = true ↔ ¬ (Ow.kl _ ≤ number ∧ number ≤ Ow.kg _)).trans (by rw [decide_eq_true_eq]; omega)) | omega), (by first | exact er | exact en | exact (by assumption : _ = true ↔ ¬ (Ow.kl _ ≤ number ∧ number ≤ Ow.kg _)).mpr (by omega) | exact Bool.eq_iff_iff.mpr ((by assumption : _ = true ↔ ¬ (Ow.kl _ ≤ number ∧ number ≤ Ow.kg _)).trans (by rw [decide_eq_true_eq]; omega)) | omega), fun Hn_159 h443 => ?_⟩
              exact kont _ ((((h363.trans h435).trans h438).trans h440).trans h443)
            · refine ⟨_, rfl, ?_⟩
              refine ⟨_, rfl, ?_⟩
              refine ⟨_, rfl, ?_⟩
              refine ⟨_, _, rfl, rfl, (by walk_at "o2"), fun q_40 h_q_40 => ?_⟩
              refine ⟨_, rfl, ?_⟩
              refine ⟨_, _, rfl, rfl, (by walk_at "o2"), fun m_40 h_m_40 => ?_⟩
              refine ⟨_, _, rfl, rfl, ?_⟩
              refine ⟨_, rfl, fun l_rest_40 h_l_rest_40 => ?_⟩
              refine Ow.gnmS (σ' := [_, _, _, _, _, _, _, _]) rfl ?_
              have er := Ow.rest_of (n := number) (s := l_size_3) (by assumption) (by assumption) h_l_rest_40 h_l_size_3
              have en := Ow.near_of (kd := _) (n := number) (N := number) (S := l_size_3) h_l_size_3 hl hg (by omega) (by omega) (by omega) (by omega) (by omega)
              refine ⟨_, rfl, ?_⟩
              refine ⟨_, _, _, _, _, rfl, .inr (.inr (⟨rfl, rfl⟩)), (h363 _ _ c0), rfl, ?_⟩
              refine ⟨_, rfl, ?_⟩
              refine ⟨_, _, ((Ow.Tf_Kind.point kd_w_3 kd_p)), _, rfl, (h363 _ _ c0), (by walk_at "o2"), fun b_79 h444 p_82 Hn_160 h445 h446 h447 => ?_⟩
              refine ⟨_, rfl, ?_⟩
              refine ⟨_, rfl, ?_⟩
              refine ⟨_, _, _, _, _, rfl, h447, (by first | exact er | exact en | exact (by assumption : _ = true ↔ ¬ (Ow.kl _ ≤ number ∧ number ≤ Ow.kg _)).mpr (by omega) | exact Bool.eq_iff_iff.mpr ((by assumption : _ = true ↔ ¬ (Ow.kl _ ≤ number ∧ number ≤ Ow.kg _)).trans (by rw [decide_eq_true_eq]; omega)) | omega), (by first | exact er | exact en | exact (by assumption : _ = true ↔ ¬ (Ow.kl _ ≤ number ∧ number ≤ Ow.kg _)).mpr (by omega) | exact Bool.eq_iff_iff.mpr ((by assumption : _ = true ↔ ¬ (Ow.kl _ ≤ number ∧ number ≤ Ow.kg _)).trans (by rw [decide_eq_true_eq]; omega)) | omega), fun Hn_161 h448 => ?_⟩
              refine ⟨_, rfl, ?_⟩
              refine iteT ?_
              refine ⟨_, rfl, ?_⟩
              refine ⟨_, _, _, _, _, rfl, .inr (.inr (⟨rfl, rfl⟩)), (h448 _ _ (h445 _ _ (h363 _ _ c0))), rfl, ?_⟩
              refine ⟨_, rfl, ?_⟩
              refine ⟨_, _, ((Ow.Tf_Kind.point kd_w_3 kd_p)), _, rfl, (h448 _ _ (h445 _ _ (h363 _ _ c0))), (by walk_at "o2"), fun b_80 h449 p_83 Hn_162 h450 h451 h452 => ?_⟩
              refine ⟨_, rfl, ?_⟩
              refine ⟨_, rfl, ?_⟩
              refine ⟨_, _, _, _, _, rfl, h452, (by first | exact er | exact en | exact (by assumption : _ = true ↔ ¬ (Ow.kl _ ≤ number ∧ number ≤ Ow.kg _)).mpr (by omega) | exact Bool.eq_iff_iff.mpr ((by assumption : _ = true ↔ ¬ (Ow.kl _ ≤ number ∧ number ≤ Ow.kg _)).trans (by rw [decide_eq_true_eq]; omega)) | omega), (by first | exact er | exact en | exact (by assumption : _ = true ↔ ¬ (Ow.kl _ ≤ number ∧ number ≤ Ow.kg _)).mpr (by omega) | exact Bool.eq_iff_iff.mpr ((by assumption : _ = true ↔ ¬ (Ow.kl _ ≤ number ∧ number ≤ Ow.kg _)).trans (by rw [decide_eq_true_eq]; omega)) | omega), fun Hn_163 h453 => ?_⟩
              exact kont _ ((((h363.trans h445).trans h448).trans h450).trans h453)
      · refine ⟨_, rfl, ?_⟩
        refine ⟨_, rfl, ?_⟩
        refine ⟨_, _, _, _, rfl, rfl, (SqT.of h365), (by first | rfl | decide), ?_⟩
        refine ⟨_, _, rfl, rfl, ?_⟩
        refine Ow.gnmS (σ' := [_, _, _, _, _, _, _, _]) rfl ?_
        refine ⟨_, rfl, ?_⟩
        refine Ow.gnmS (σ' := [_, _, _, _, _, _, _, _]) rfl ?_
        refine ⟨_, rfl, ?_⟩
        refine ⟨_, rfl, ?_⟩
        refine ⟨_, _, _, _, rfl, rfl, (SqT.of h365), (by first | rfl | decide), ?_⟩
        refine ⟨_, _, rfl, rfl, ?_⟩
        refine ⟨_, rfl, ?_⟩
        refine Ow.ifd (fun h454 => ?_) (fun h454 => ?_)
        · refine ⟨_, rfl, ?_⟩
          refine ⟨_, _, _, _, rfl, rfl, (SqT.of h365), (by first | rfl | decide), ?_⟩
          refine ⟨_, rfl, ?_⟩
          refine ⟨_, rfl, ?_⟩
          refine ⟨_, _, _, _, rfl, rfl, (SqT.of h365), (by first | rfl | decide), ?_⟩
          refine ⟨_, _, rfl, rfl, ?_⟩
          refine ⟨_, rfl, ?_⟩
          refine Ow.ifd (fun h455 => ?_) (fun h455 => ?_)
          · refine ⟨_, rfl, ?_⟩
            refine ⟨_, _, _, _, rfl, rfl, (SqT.of h365), (by first | rfl | decide), ?_⟩
            refine ⟨_, rfl, ?_⟩
            refine ⟨_, _, rfl, rfl, ?_⟩
            refine ⟨_, rfl, ?_⟩
            refine Ow.ifd (fun h456 => ?_) (fun h456 => ?_)
            · refine ⟨_, rfl, ?_⟩
              refine ⟨_, rfl, ?_⟩
              refine ⟨_, _, rfl, rfl, ?_⟩
              refine ⟨_, rfl, fun l_nearest_21 h_l_nearest_21 => ?_⟩
              refine ⟨_, rfl, ?_⟩
              refine ⟨_, rfl, ?_⟩
              refine ⟨_, rfl, ?_⟩
              refine ⟨_, _, rfl, rfl, (by walk_at "o2"), fun q_41 h_q_41 => ?_⟩
              refine ⟨_, rfl, ?_⟩
              refine ⟨_, _, rfl, rfl, (by walk_at "o2"), fun m_41 h_m_41 => ?_⟩
              refine ⟨_, _, rfl, rfl, ?_⟩
              refine ⟨_, rfl, fun l_rest_41 h_l_rest_41 => ?_⟩
              refine Ow.gnmS (σ' := [_, _, _, _, _, _, _, _]) rfl ?_
              have er := Ow.rest_of (n := number) (s := l_size_3) (by assumption) (by assumption) h_l_rest_41 h_l_size_3
              have en := Ow.near_of (kd := _) (n := number) (N := l_nearest_21) (S := l_size_3) h_l_size_3 hl hg (by omega) (by omega) (by omega) (by omega) (by omega)
              refine ⟨_, rfl, ?_⟩
              refine ⟨_, _, _, _, _, rfl, .inr (.inr (⟨rfl, rfl⟩)), (h363 _ _ c0), rfl, ?_⟩
              refine ⟨_, rfl, ?_⟩
              refine ⟨_, _, ((Ow.Tf_Kind.point kd_w_3 kd_p)), _, rfl, (h363 _ _ c0), (by walk_at "o2"), fun b_81 h457 p_84 Hn_164 h458 h459 h460 => ?_⟩
              refine ⟨_, rfl, ?_⟩
              refine ⟨_, rfl, ?_⟩
              refine ⟨_, _, _, _, _, rfl, h460, (by first | exact er | exact en | exact (by assumption : _ = true ↔ ¬ (Ow.kl _ ≤ number ∧ number ≤ Ow.kg _)).mpr (by omega) | exact Bool.eq_iff_iff.mpr ((by assumption : _ = true ↔ ¬ (Ow.kl _ ≤ number ∧ number ≤ Ow.kg _)).trans (by rw [decide_eq_true_eq]; omega)) | omega), (by first | exact er | exact en | exact (by assumption : _ = true ↔ ¬ (Ow.kl _ ≤ number ∧ number ≤ Ow.kg _)).mpr (by omega) | exact Bool.eq_iff_iff.mpr ((by assumption : _ = true ↔ ¬ (Ow.kl _ ≤ number ∧ number ≤ Ow.kg _)).trans (by rw [decide_eq_true_eq]; omega)) | omega), fun Hn_165 h461 => ?_⟩
              refine ⟨_, rfl, ?_⟩
              refine iteT ?_
              refine ⟨_, rfl, ?_⟩
              refine ⟨_, _, _, _, _, rfl, .inr (.inr (⟨rfl, rfl⟩)), (h461 _ _ (h458 _ _ (h363 _ _ c0))), rfl, ?_⟩
              refine ⟨_, rfl, ?_⟩
              refine ⟨_, _, ((Ow.Tf_Kind.point kd_w_3 kd_p)), _, rfl, (h461 _ _ (h458 _ _ (h363 _ _ c0))), (by walk_at "o2"), fun b_82 h462 p_85 Hn_166 h463 h464 h465 => ?_⟩
              refine ⟨_, rfl, ?_⟩
              refine ⟨_, rfl, ?_⟩
              refine ⟨_, _, _, _, _, rfl, h465, (by first | exact er | exact en | exact (by assumption : _ = true ↔ ¬ (Ow.kl _ ≤ number ∧ number ≤ Ow.kg _)).mpr (by omega) | exact Bool.eq_iff_iff.mpr ((by assumption : _ = true ↔ ¬ (Ow.kl _ ≤ number ∧ number ≤ Ow.kg _)).trans (by rw [decide_eq_true_eq]; omega)) | omega), (by first | exact er | exact en | exact (by assumption : _ = true ↔ ¬ (Ow.kl _ ≤ number ∧ number ≤ Ow.kg _)).mpr (by omega) | exact Bool.eq_iff_iff.mpr ((by assumption : _ = true ↔ ¬ (Ow.kl _ ≤ number ∧ number ≤ Ow.kg _)).trans (by rw [decide_eq_true_eq]; omega)) | omega), fun Hn_167 h466 => ?_⟩
              exact kont _ ((((h363.trans h458).trans h461).trans h463).trans h466)
            · refine ⟨_, rfl, ?_⟩
              refine ⟨_, rfl, ?_⟩
              refine ⟨_, rfl, ?_⟩
              refine ⟨_, _, rfl, rfl, (by walk_at "o2"), fun q_42 h_q_42 => ?_⟩
              refine ⟨_, rfl, ?_⟩
              refine ⟨_, _, rfl, rfl, (by walk_at "o2"), fun m_42 h_m_42 => ?_⟩
              refine ⟨_, _, rfl, rfl, ?_⟩
              refine ⟨_, rfl, fun l_rest_42 h_l_rest_42 => ?_⟩
              refine Ow.gnmS (σ' := [_, _, _, _, _, _, _, _]) rfl ?_
              have er := Ow.rest_of (n := number) (s := l_size_3) (by assumption) (by assumption) h_l_rest_42 h_l_size_3
              have en := Ow.near_of (kd := _) (n := number) (N := hi_3) (S := l_size_3) h_l_size_3 hl hg (by omega) (by omega) (by omega) (by omega) (by omega)
              refine ⟨_, rfl, ?_⟩
              refine ⟨_, _, _, _, _, rfl, .inr (.inr (⟨rfl, rfl⟩)), (h363 _ _ c0), rfl, ?_⟩
              refine ⟨_, rfl, ?_⟩
              refine ⟨_, _, ((Ow.Tf_Kind.point kd_w_3 kd_p)), _, rfl, (h363 _ _ c0), (by walk_at "o2"), fun b_83 h467 p_86 Hn_168 h468 h469 h470 => ?_⟩
              refine ⟨_, rfl, ?_⟩
              refine ⟨_, rfl, ?_⟩
              refine ⟨_, _, _, _, _, rfl, h470, (by first | exact er | exact en | exact (by assumption : _ = true ↔ ¬ (Ow.kl _ ≤ number ∧ number ≤ Ow.kg _)).mpr (by omega) | exact Bool.eq_iff_iff.mpr ((by assumption : _ = true ↔ ¬ (Ow.kl _ ≤ number ∧ number ≤ Ow.kg _)).trans (by rw [decide_eq_true_eq]; omega)) | omega), (by first | exact er | exact en | exact (by assumption : _ = true ↔ ¬ (Ow.kl _ ≤ number ∧ number ≤ Ow.kg _)).mpr (by omega) | exact Bool.eq_iff_iff.mpr ((by assumption : _ = true ↔ ¬ (Ow.kl _ ≤ number ∧ number ≤ Ow.kg _)).trans (by rw [decide_eq_true_eq]; omega)) | omega), fun Hn_169 h471 => ?_⟩
              refine ⟨_, rfl, ?_⟩
              refine iteT ?_
              refine ⟨_, rfl, ?_⟩
              refine ⟨_, _, _, _, _, rfl, .inr (.inr (⟨rfl, rfl⟩)), (h471 _ _ (h468 _ _ (h363 _ _ c0))), rfl, ?_⟩
              refine ⟨_, rfl, ?_⟩
              refine ⟨_, _, ((Ow.Tf_Kind.point kd_w_3 kd_p)), _, rfl, (h471 _ _ (h468 _ _ (h363 _ _ c0))), (by walk_at "o2"), fun b_84 h472 p_87 Hn_170 h473 h474 h475 => ?_⟩
              refine ⟨_, rfl, ?_⟩
              refine ⟨_, rfl, ?_⟩
              refine ⟨_, _, _, _, _, rfl, h475, (by first | exact er | exact en | exact (by assumption : _ = true ↔ ¬ (Ow.kl _ ≤ number ∧ number ≤ Ow.kg _)).mpr (by omega) | exact Bool.eq_iff_iff.mpr ((by assumption : _ = true ↔ ¬ (Ow.kl _ ≤ number ∧ number ≤ Ow.kg _)).trans (by rw [decide_eq_true_eq]; omega)) | omega), (by first | exact er | exact en | exact (by assumption : _ = true ↔ ¬ (Ow.kl _ ≤ number ∧ number ≤ Ow.kg _)).mpr (by omega) | exact Bool.eq_iff_iff.mpr ((by assumption : _ = true ↔ ¬ (Ow.kl _ ≤ number ∧ number ≤ Ow.kg _)).trans (by rw [decide_eq_true_eq]; omega)) | omega), fun Hn_171 h476 => ?_⟩
              exact kont _ ((((h363.trans h468).trans h471).trans h473).trans h476)
          · refine ⟨_, rfl, ?_⟩
            refine ⟨_, _, rfl, rfl, ?_⟩
            refine ⟨_, rfl, ?_⟩
            refine Ow.ifd (fun h477 => ?_) (fun h477 => ?_)
            · refine ⟨_, rfl, ?_⟩
              refine ⟨_, rfl, ?_⟩
              refine ⟨_, _, rfl, rfl, ?_⟩
              refine ⟨_, rfl, fun l_nearest_22 h_l_nearest_22 => ?_⟩
              refine ⟨_, rfl, ?_⟩
              refine ⟨_, rfl, ?_⟩
              refine ⟨_, rfl, ?_⟩
              refine ⟨_, _, rfl, rfl, (by walk_at "o2"), fun q_43 h_q_43 => ?_⟩
              refine ⟨_, rfl, ?_⟩
              refine ⟨_, _, rfl, rfl, (by walk_at "o2"), fun m_43 h_m_43 => ?_⟩
              refine ⟨_, _, rfl, rfl, ?_⟩
              refine ⟨_, rfl, fun l_rest_43 h_l_rest_43 => ?_⟩
              refine Ow.gnmS (σ' := [_, _, _, _, _, _, _, _]) rfl ?_
              have er := Ow.rest_of (n := number) (s := l_size_3) (by assumption) (by assumption) h_l_rest_43 h_l_size_3
              have en := Ow.near_of (kd := _) (n := number) (N := l_nearest_22) (S := l_size_3) h_l_size_3 hl hg (by omega) (by omega) (by omega) (by omega) (by omega)
              refine ⟨_, rfl, ?_⟩
              refine ⟨_, _, _, _, _, rfl, .inr (.inr (⟨rfl, rfl⟩)), (h363 _ _ c0), rfl, ?_⟩
              refine ⟨_, rfl, ?_⟩
              refine ⟨_, _, ((Ow.Tf_Kind.point kd_w_3 kd_p)), _, rfl, (h363 _ _ c0), (by walk_at "o2"), fun b_85 h478 p_88 Hn_172 h479 h480 h481 => ?_⟩
              refine ⟨_, rfl, ?_⟩
              refine ⟨_, rfl, ?_⟩
              refine ⟨_, _, _, _, _, rfl, h481, (by first | exact er | exact en | exact (by assumption : _ = true ↔ ¬ (Ow.kl _ ≤ number ∧ number ≤ Ow.kg _)).mpr (by omega) | exact Bool.eq_iff_iff.mpr ((by assumption : _ = true ↔ ¬ (Ow.kl _ ≤ number ∧ number ≤ Ow.kg _)).trans (by rw [decide_eq_true_eq]; omega)) | omega), (by first | exact er | exact en | exact (by assumption : _ = true ↔ ¬ (Ow.kl _ ≤ number ∧ number ≤ Ow.kg _)).mpr (by omega) | exact Bool.eq_iff_iff.mpr ((by assumption : _ = true ↔ ¬ (Ow.kl _ ≤ number ∧ number ≤ Ow.kg _)).trans (by rw [decide_eq_true_eq]; omega)) | omega), fun Hn_173 h482 => ?_⟩
              refine ⟨_, rfl, ?_⟩
              refine iteT ?_
              refine ⟨_, rfl, ?_⟩
              refine ⟨_, _, _, _, _, rfl, .inr (.inr (⟨rfl, rfl⟩)), (h482 _ _ (h479 _ _ (h363 _ _ c0))), rfl, ?_⟩
              refine ⟨_, rfl, ?_⟩
              refine ⟨_, _, ((Ow.Tf_Kind.point kd_w_3 kd_p)), _, rfl, (h482 _ _ (h479 _ _ (h363 _ _ c0))), (by walk_at "o2"), fun b_86 h483 p_89 Hn_174 h484 h485 h486 => ?_⟩
              refine ⟨_, rfl, ?_⟩
              refine ⟨_, rfl, ?_⟩
              refine ⟨_, _, _, _, _, rfl, h486, (by first | exact er | exact en | exact (by assumption : _ = true ↔ ¬ (Ow.kl _ ≤ number ∧ number ≤ Ow.kg _)).mpr (by omega) | exact Bool.eq_iff_iff.mpr ((by assumption : _ = true ↔ ¬ (Ow.kl _ ≤ number ∧ number ≤ Ow.kg _)).trans (by rw [decide_eq_true_eq]; omega)) | omega), (by first | exact er | exact en | exact (by assumption : _ = true ↔ ¬ (Ow.kl _ ≤ number ∧ number ≤ Ow.kg _)).mpr (by omega) | exact Bool.eq_iff_iff.mpr ((by assumption : _ = true ↔ ¬ (Ow.kl _ ≤ number ∧ number ≤ Ow.kg _)).trans (by rw [decide_eq_true_eq]; omega)) | omega), fun Hn_175 h487 => ?_⟩
              exact kont _ ((((h363.trans h479).trans h482).trans h484).trans h487)
            · refine ⟨_, rfl, ?_⟩
              refine ⟨_, rfl, ?_⟩
              refine ⟨_, rfl, ?_⟩
              refine ⟨_, _, rfl, rfl, (by walk_at "o2"), fun q_44 h_q_44 => ?_⟩
              refine ⟨_, rfl, ?_⟩
              refine ⟨_, _, rfl, rfl, (by walk_at "o2"), fun m_44 h_m_44 => ?_⟩
              refine ⟨_, _, rfl, rfl, ?_⟩
              refine ⟨_, rfl, fun l_rest_44 h_l_rest_44 => ?_⟩
              refine Ow.gnmS (σ' := [_, _, _, _, _, _, _, _]) rfl ?_
              have er := Ow.rest_of (n := number) (s := l_size_3) (by assumption) (by assumption) h_l_rest_44 h_l_size_3
              have en := Ow.near_of (kd := _) (n := number) (N := lo_3) (S := l_size_3) h_l_size_3 hl hg (by omega) (by omega) (by omega) (by omega) (by omega)
              refine ⟨_, rfl, ?_⟩
              refine ⟨_, _, _, _, _, rfl, .inr (.inr (⟨rfl, rfl⟩)), (h363 _ _ c0), rfl, ?_⟩
              refine ⟨_, rfl, ?_⟩
              refine ⟨_, _, ((Ow.Tf_Kind.point kd_w_3 kd_p)), _, rfl, (h363 _ _ c0), (by walk_at "o2"), fun b_87 h488 p_90 Hn_176 h489 h490 h491 => ?_⟩
              refine ⟨_, rfl, ?_⟩
              refine ⟨_, rfl, ?_⟩
              refine ⟨_, _, _, _, _, rfl, h491, (by first | exact er | exact en | exact (by assumption : _ = true ↔ ¬ (Ow.kl _ ≤ number ∧ number ≤ Ow.kg _)).mpr (by omega) | exact Bool.eq_iff_iff.mpr ((by assumption : _ = true ↔ ¬ (Ow.kl _ ≤ number ∧ number ≤ Ow.kg _)).trans (by rw [decide_eq_true_eq]; omega)) | omega), (by first | exact er | exact en | exact (by assumption : _ = true ↔ ¬ (Ow.kl _ ≤ number ∧ number ≤ Ow.kg _)).mpr (by omega) | exact Bool.eq_iff_iff.mpr ((by assumption : _ = true ↔ ¬ (Ow.kl _ ≤ number ∧ number ≤ Ow.kg _)).trans (by rw [decide_eq_true_eq]; omega)) | omega), fun Hn_177 h492 => ?_⟩
              refine ⟨_, rfl, ?_⟩
              refine iteT ?_
              refine ⟨_, rfl, ?_⟩
              refine ⟨_, _, _, _, _, rfl, .inr (.inr (⟨rfl, rfl⟩)), (h492 _ _ (h489 _ _ (h363 _ _ c0))), rfl, ?_⟩
              refine ⟨_, rfl, ?_⟩
              refine ⟨_, _, ((Ow.Tf_Kind.point kd_w_3 kd_p)), _, rfl, (h492 _ _ (h489 _ _ (h363 _ _ c0))), (by walk_at "o2"), fun b_88 h493 p_91 Hn_178 h494 h495 h496 => ?_⟩
              refine ⟨_, rfl, ?_⟩
              refine ⟨_, rfl, ?_⟩
              refine ⟨_, _, _, _, _, rfl, h496, (by first | exact er | exact en | exact (by assumption : _ = true ↔ ¬ (Ow.kl _ ≤ number ∧ number ≤ Ow.kg _)).mpr (by omega) | exact Bool.eq_iff_iff.mpr ((by assumption : _ = true ↔ ¬ (Ow.kl _ ≤ number ∧ number ≤ Ow.kg _)).trans (by rw [decide_eq_true_eq]; omega)) | omega), (by first | exact er | exact en | exact (by assumption : _ = true ↔ ¬ (Ow.kl _ ≤ number ∧ number ≤ Ow.kg _)).mpr (by omega) | exact Bool.eq_iff_iff.mpr ((by assumption : _ = true ↔ ¬ (Ow.kl _ ≤ number ∧ number ≤ Ow.kg _)).trans (by rw [decide_eq_true_eq]; omega)) | omega), fun Hn_179 h497 => ?_⟩
              exact kont _ ((((h363.trans h489).trans h492).trans h494).trans h497)
        · refine ⟨_, rfl, ?_⟩
          refine ⟨_, rfl, ?_⟩
          refine ⟨_, _, _, _, rfl, rfl, (SqT.of h365), (by first | rfl | decide), ?_⟩
          refine ⟨_, _, rfl, rfl, ?_⟩
          refine ⟨_, rfl, ?_⟩
          refine Ow.ifd (fun h498 => ?_) (fun h498 => ?_)
          · refine ⟨_, rfl, ?_⟩
            refine ⟨_, _, _, _, rfl, rfl, (SqT.of h365), (by first | rfl | decide), ?_⟩
            refine ⟨_, rfl, ?_⟩
            refine ⟨_, _, rfl, rfl, ?_⟩
            refine ⟨_, rfl, ?_⟩
            refine Ow.ifd (fun h499 => ?_) (fun h499 => ?_)
            · refine ⟨_, rfl, ?_⟩
              refine ⟨_, rfl, ?_⟩
              refine ⟨_, _, rfl, rfl, ?_⟩
              refine ⟨_, rfl, fun l_nearest_23 h_l_nearest_23 => ?_⟩
              refine ⟨_, rfl, ?_⟩
              refine ⟨_, rfl, ?_⟩
              refine ⟨_, rfl, ?_⟩
              refine ⟨_, _, rfl, rfl, (by walk_at "o2"), fun q_45 h_q_45 => ?_⟩
              refine ⟨_, rfl, ?_⟩
              refine ⟨_, _, rfl, rfl, (by walk_at "o2"), fun m_45 h_m_45 => ?_⟩
              refine ⟨_, _, rfl, rfl, ?_⟩
              refine ⟨_, rfl, fun l_rest_45 h_l_rest_45 => ?_⟩
              refine Ow.gnmS (σ' := [_, _, _, _, _, _, _, _]) rfl ?_
              have er := Ow.rest_of (n := number) (s := l_size_3) (by assumption) (by assumption) h_l_rest_45 h_l_size_3
              have en := Ow.near_of (kd := _) (n := number) (N := l_nearest_23) (S := l_size_3) h_l_size_3 hl hg (by omega) (by omega) (by omega) (by omega) (by omega)
              refine ⟨_, rfl, ?_⟩
              refine ⟨_, _, _, _, _, rfl, .inr (.inr (⟨rfl, rfl⟩)), (h363 _ _ c0), rfl, ?_⟩
              refine ⟨_, rfl, ?_⟩
              refine ⟨_, _, ((Ow.Tf_Kind.point kd_w_3 kd_p)), _, rfl, (h363 _ _ c0), (by walk_at "o2"), fun b_89 h500 p_92 Hn_180 h501 h502 h503 => ?_⟩
              refine ⟨_, rfl, ?_⟩
              refine ⟨_, rfl, ?_⟩
              refine ⟨_, _, _, _, _, rfl, h503, (by first | exact er | exact en | exact (by assumption : _ = true ↔ ¬ (Ow.kl _ ≤ number ∧ number ≤ Ow.kg _)).mpr (by omega) | exact Bool.eq_iff_iff.mpr ((by assumption : _ = true ↔ ¬ (Ow.kl _ ≤ number ∧ number ≤ Ow.kg _)).trans (by rw [decide_eq_true_eq]; omega)) | omega), (by first | exact er | exact en | exact (by assumption : _ = true ↔ ¬ (Ow.kl _ ≤ number ∧ number ≤ Ow.kg _)).mpr (by omega) | exact Bool.eq_iff_iff.mpr ((by assumption : _ = true ↔ ¬ (Ow.kl _ ≤ number ∧ number ≤ Ow.kg _)).trans (by rw [decide_eq_true_eq]; omega)) | omega), fun Hn_181 h504 => ?_⟩
              refine ⟨_, rfl, ?_⟩
              refine iteT ?_
              refine ⟨_, rfl, ?_⟩
              refine ⟨_, _, _, _, _, rfl, .inr (.inr (⟨rfl, rfl⟩)), (h504 _ _ (h501 _ _ (h363 _ _ c0))), rfl, ?_⟩
              refine ⟨_, rfl, ?_⟩
              refine ⟨_, _, ((Ow.Tf_Kind.point kd_w_3 kd_p)), _, rfl, (h504 _ _ (h501 _ _ (h363 _ _ c0))), (by walk_at "o2"), fun b_90 h505 p_93 Hn_182 h506 h507 h508 => ?_⟩
              refine ⟨_, rfl, ?_⟩
              refine ⟨_, rfl, ?_⟩
              refine ⟨_, _, _, _, _, rfl, h508, (by first | exact er | exact en | exact (by assumption : _ = true ↔ ¬ (Ow.kl _ ≤ number ∧ number ≤ Ow.kg _)).mpr (by omega) | exact Bool.eq_iff_iff.mpr ((by assumption : _ = true ↔ ¬ (Ow.kl _ ≤ number ∧ number ≤ Ow.kg _)).trans (by rw [decide_eq_true_eq]; omega)) | omega), (by first | exact er | exact en | exact (by assumption : _ = true ↔ ¬ (Ow.kl _ ≤ number ∧ number ≤ Ow.kg _)).mpr (by omega) | exact Bool.eq_iff_iff.mpr ((by assumption : _ = true ↔ ¬ (Ow.kl _ ≤ number ∧ number ≤ Ow.kg _)).trans (by rw [decide_eq_true_eq]; omega)) | omega), fun Hn_183 h509 => ?_⟩
              exact kont _ ((((h363.trans h501).trans h504).trans h506).trans h509)
            · refine ⟨_, rfl, ?_⟩
              refine ⟨_, rfl, ?_⟩
              refine ⟨_, rfl, ?_⟩
              refine ⟨_, _, rfl, rfl, (by walk_at "o2"), fun q_46 h_q_46 => ?_⟩
              refine ⟨_, rfl, ?_⟩
              refine ⟨_, _, rfl, rfl, (by walk_at "o2"), fun m_46 h_m_46 => ?_⟩
              refine ⟨_, _, rfl, rfl, ?_⟩
              refine ⟨_, rfl, fun l_rest_46 h_l_rest_46 => ?_⟩
              refine Ow.gnmS (σ' := [_, _, _, _, _, _, _, _]) rfl ?_
              have er := Ow.rest_of (n := number) (s := l_size_3) (by assumption) (by assumption) h_l_rest_46 h_l_size_3
              have en := Ow.near_of (kd := _) (n := number) (N := hi_3) (S := l_size_3) h_l_size_3 hl hg (by omega) (by omega) (by omega) (by omega) (by omega)
              refine ⟨_, rfl, ?_⟩
              refine ⟨_, _, _, _, _, rfl, .inr (.inr (⟨rfl, rfl⟩)), (h363 _ _ c0), rfl, ?_⟩
              refine ⟨_, rfl, ?_⟩
              refine ⟨_, _, ((Ow.Tf_Kind.point kd_w_3 kd_p)), _, rfl, (h363 _ _ c0), (by walk_at "o2"), fun b_91 h510 p_94 Hn_184 h511 h512 h513 => ?_⟩
              refine ⟨_, rfl, ?_⟩
              refine ⟨_, rfl, ?_⟩
              refine ⟨_, _, _, _, _, rfl, h513, (by first | exact er | exact en | exact (by assumption : _ = true ↔ ¬ (Ow.kl _ ≤ number ∧ number ≤ Ow.kg _)).mpr (by omega) | exact Bool.eq_iff_iff.mpr ((by assumption : _ = true ↔ ¬ (Ow.kl _ ≤ number ∧ number ≤ Ow.kg _)).trans (by rw [decide_eq_true_eq]; omega)) | omega), (by first | exact er | exact en | exact (by assumption : _ = true ↔ ¬ (Ow.kl _ ≤ number ∧ number ≤ Ow.kg _)).mpr (by omega) | exact Bool.eq_iff_iff.mpr ((by assumption : _ = true ↔ ¬ (Ow.kl _ ≤ number ∧ number ≤ Ow.kg _)).trans (by rw [decide_eq_true_eq]; omega)) | omega), fun Hn_185 h514 => ?_⟩
              refine ⟨_, rfl, ?_⟩
              refine iteT ?_
              refine ⟨_, rfl, ?_⟩
              refine ⟨_, _, _, _, _, rfl, .inr (.inr (⟨rfl, rfl⟩)), (h514 _ _ (h511 _ _ (h363 _ _ c0))), rfl, ?_⟩
              refine ⟨_, rfl, ?_⟩
              refine ⟨_, _, ((Ow.Tf_Kind.point kd_w_3 kd_p)), _, rfl, (h514 _ _ (h511 _ _ (h363 _ _ c0))), (by walk_at "o2"), fun b_92 h515 p_95 Hn_186 h516 h517 h518 => ?_⟩
              refine ⟨_, rfl, ?_⟩
              refine ⟨_, rfl, ?_⟩
              refine ⟨_, _, _, _, _, rfl, h518, (by first | exact er | exact en | exact (by assumption : _ = true ↔ ¬ (Ow.kl _ ≤ number ∧ number ≤ Ow.kg _)).mpr (by omega) | exact Bool.eq_iff_iff.mpr ((by assumption : _ = true ↔ ¬ (Ow.kl _ ≤ number ∧ number ≤ Ow.kg _)).trans (by rw [decide_eq_true_eq]; omega)) | omega), (by first | exact er | exact en | exact (by assumption : _ = true ↔ ¬ (Ow.kl _ ≤ number ∧ number ≤ Ow.kg _)).mpr (by omega) | exact Bool.eq_iff_iff.mpr ((by assumption : _ = true ↔ ¬ (Ow.kl _ ≤ number ∧ number ≤ Ow.kg _)).trans (by rw [decide_eq_true_eq]; omega)) | omega), fun Hn_187 h519 => ?_⟩
              exact kont _ ((((h363.trans h511).trans h514).trans h516).trans h519)
          · refine ⟨_, rfl, ?_⟩
            refine ⟨_, _, rfl, rfl, ?_⟩
            refine ⟨_, rfl, ?_⟩
            refine Ow.ifd (fun h520 => ?_) (fun h520 => ?_)
            · refine ⟨_, rfl, ?_⟩
              refine ⟨_, rfl, ?_⟩
              refine ⟨_, _, rfl, rfl, ?_⟩
              refine ⟨_, rfl, fun l_nearest_24 h_l_nearest_24 => ?_⟩
              refine ⟨_, rfl, ?_⟩
              refine ⟨_, rfl, ?_⟩
              refine ⟨_, rfl, ?_⟩
              refine ⟨_, _, rfl, rfl, (by walk_at "o2"), fun q_47 h_q_47 => ?_⟩
              refine ⟨_, rfl, ?_⟩
              refine ⟨_, _, rfl, rfl, (by walk_at "o2"), fun m_47 h_m_47 => ?_⟩
              refine ⟨_, _, rfl, rfl, ?_⟩
              refine ⟨_, rfl, fun l_rest_47 h_l_rest_47 => ?_⟩
              refine Ow.gnmS (σ' := [_, _, _, _, _, _, _, _]) rfl ?_
              have er := Ow.rest_of (n := number) (s := l_size_3) (by assumption) (by assumption) h_l_rest_47 h_l_size_3
              have en := Ow.near_of (kd := _) (n := number) (N := l_nearest_24) (S := l_size_3) h_l_size_3 hl hg (by omega) (by omega) (by omega) (by omega) (by omega)
              refine ⟨_, rfl, ?_⟩
              refine ⟨_, _, _, _, _, rfl, .inr (.inr (⟨rfl, rfl⟩)), (h363 _ _ c0), rfl, ?_⟩
              refine ⟨_, rfl, ?_⟩
              refine ⟨_, _, ((Ow.Tf_Kind.point kd_w_3 kd_p)), _, rfl, (h363 _ _ c0), (by walk_at "o2"), fun b_93 h521 p_96 Hn_188 h522 h523 h524 => ?_⟩
              refine ⟨_, rfl, ?_⟩
              refine ⟨_, rfl, ?_⟩
              refine ⟨_, _, _, _, _, rfl, h524, (by first | exact er | exact en | exact (by assumption : _ = true ↔ ¬ (Ow.kl _ ≤ number ∧ number ≤ Ow.kg _)).mpr (by omega) | exact Bool.eq_iff_iff.mpr ((by assumption : _ = true ↔ ¬ (Ow.kl _ ≤ number ∧ number ≤ Ow.kg _)).trans (by rw [decide_eq_true_eq]; omega)) | omega), (by first | exact er | exact en | exact (by assumption : _ = true ↔ ¬ (Ow.kl _ ≤ number ∧ number ≤ Ow.kg _)).mpr (by omega) | exact Bool.eq_iff_iff.mpr ((by assumption : _ = true ↔ ¬ (Ow.kl _ ≤ number ∧ number ≤ Ow.kg _)).trans (by rw [decide_eq_true_eq]; omega)) | omega), fun Hn_189 h525 => ?_⟩
              refine ⟨_, rfl, ?_⟩
              refine iteT ?_
              refine ⟨_, rfl, ?_⟩
              refine ⟨_, _, _, _, _, rfl, .inr (.inr (⟨rfl, rfl⟩)), (h525 _ _ (h522 _ _ (h363 _ _ c0))), rfl, ?_⟩
              refine ⟨_, rfl, ?_⟩
              refine ⟨_, _, ((Ow.Tf_Kind.point kd_w_3 kd_p)), _, rfl, (h525 _ _ (h522 _ _ (h363 _ _ c0))), (by walk_at "o2"), fun b_94 h526 p_97 Hn_190 h527 h528 h529 => ?_⟩
              refine ⟨_, rfl, ?_⟩
              refine ⟨_, rfl, ?_⟩
              refine ⟨_, _, _, _, _, rfl, h529, (by first | exact er | exact en | exact (by assumption : _ = true ↔ ¬ (Ow.kl _ ≤ number ∧ number ≤ Ow.kg _)).mpr (by omega) | exact Bool.eq_iff_iff.mpr ((by assumption : _ = true ↔ ¬ (Ow.kl _ ≤ number ∧ number ≤ Ow.kg _)).trans (by rw [decide_eq_true_eq]; omega)) | omega), (by first | exact er | exact en | exact (by assumption : _ = true ↔ ¬ (Ow.kl _ ≤ number ∧ number ≤ Ow.kg _)).mpr (by omega) | exact Bool.eq_iff_iff.mpr ((by assumption : _ = true ↔ ¬ (Ow.kl _ ≤ number ∧ number ≤ Ow.kg _)).trans (by rw [decide_eq_true_eq]; omega)) | omega), fun Hn_191 h530 => ?_⟩
              exact kont _ ((((h363.trans h522).trans h525).trans h527).trans h530)
            · refine ⟨_, rfl, ?_⟩
              refine ⟨_, rfl, ?_⟩
              refine ⟨_, rfl, ?_⟩
              refine ⟨_, _, rfl, rfl, (by walk_at "o2"), fun q_48 h_q_48 => ?_⟩
              refine ⟨_, rfl, ?_⟩
              refine ⟨_, _, rfl, rfl, (by walk_at "o2"), fun m_48 h_m_48 => ?_⟩
              refine ⟨_, _, rfl, rfl, ?_⟩
              refine ⟨_, rfl, fun l_rest_48 h_l_rest_48 => ?_⟩
              refine Ow.gnmS (σ' := [_, _, _, _, _, _, _, _]) rfl ?_
              have er := Ow.rest_of (n := number) (s := l_size_3) (by assumption) (by assumption) h_l_rest_48 h_l_size_3
              have en := Ow.near_of (kd := _) (n := number) (N := number) (S := l_size_3) h_l_size_3 hl hg (by omega) (by omega) (by omega) (by omega) (by omega)
              refine ⟨_, rfl, ?_⟩
              refine ⟨_, _, _, _, _, rfl, .inr (.inr (⟨rfl, rfl⟩)), (h363 _ _ c0), rfl, ?_⟩
              refine ⟨_, rfl, ?_⟩
              refine ⟨_, _, ((Ow.Tf_Kind.point kd_w_3 kd_p)), _, rfl, (h363 _ _ c0), (by walk_at "o2"), fun b_95 h531 p_98 Hn_192 h532 h533 h534 => ?_⟩
              refine ⟨_, rfl, ?_⟩
              refine ⟨_, rfl, ?_⟩
              refine ⟨_, _, _, _, _, rfl, h534, (by first | exact er | exact en | exact (by assumption : _ = true ↔ ¬ (Ow.kl _ ≤ number ∧ number ≤ Ow.kg _)).mpr (by omega) | exact Bool.eq_iff_iff.mpr ((by assumption : _ = true ↔ ¬ (Ow.kl _ ≤ number ∧ number ≤ Ow.kg _)).trans (by rw [decide_eq_true_eq]; omega)) | omega), (by first | exact er | exact en | exact (by assumption : _ = true ↔ ¬ (Ow.kl _ ≤ number ∧ number ≤ Ow.kg _)).mpr (by omega) | exact Bool.eq_iff_iff.mpr ((by assumption : _ = true ↔ ¬ (Ow.kl _ ≤ number ∧ number ≤ Ow.kg _)).trans (by rw [decide_eq_true_eq]; omega)) | omega), fun Hn_193 h535 => ?_⟩
              refine ⟨_, rfl, ?_⟩
              refine iteT ?_
              refine ⟨_, rfl, ?_⟩
              refine ⟨_, _, _, _, _, rfl, .inr (.inr (⟨rfl, rfl⟩)), (h535 _ _ (h532 _ _ (h363 _ _ c0))), rfl, ?_⟩
              refine ⟨_, rfl, ?_⟩
              refine ⟨_, _, ((Ow.Tf_Kind.point kd_w_3 kd_p)), _, rfl, (h535 _ _ (h532 _ _ (h363 _ _ c0))), (by walk_at "o2"), fun b_96 h536 p_99 Hn_194 h537 h538 h539 => ?_⟩
              refine ⟨_, rfl, ?_⟩
              refine ⟨_, rfl, ?_⟩
              refine ⟨_, _, _, _, _, rfl, h539, (by first | exact er | exact en | exact (by assumption : _ = true ↔ ¬ (Ow.kl _ ≤ number ∧ number ≤ Ow.kg _)).mpr (by omega) | exact Bool.eq_iff_iff.mpr ((by assumption : _ = true ↔ ¬ (Ow.kl _ ≤ number ∧ number ≤ Ow.kg _)).trans (by rw [decide_eq_true_eq]; omega)) | omega), (by first | exact er | exact en | exact (by assumption : _ = true ↔ ¬ (Ow.kl _ ≤ number ∧ number ≤ Ow.kg _)).mpr (by omega) | exact Bool.eq_iff_iff.mpr ((by assumption : _ = true ↔ ¬ (Ow.kl _ ≤ number ∧ number ≤ Ow.kg _)).trans (by rw [decide_eq_true_eq]; omega)) | omega), fun Hn_195 h540 => ?_⟩
              exact kont _ ((((h363.trans h532).trans h535).trans h537).trans h540)
theorem ok_law (T : Tx K mg) : FnOk P w K mg base CX0 8 T.d_law.f T.d_law.fd ["_law_script"] (sp_law K) := by
  refine T.d_law.F.ok sc_law (fun vs H Q E h => ?_) (fun cdv A outer s H vs Q E hr h => ?_)
  · obtain ⟨script, ns, rfl, _⟩ := h
    rfl
  · obtain ⟨script, ns, rfl, c0, c1, kont⟩ := h
    refine ⟨_, (pss_cons (ps_for PassesOwn.never rfl (pi_range1 (by rfl) T.z_range (pa_cons (Ow.pe_nmi (pe_callB (call_max2 rfl) (by rfl) T.z_max PyProof.Rows.boot_max (pa_cons pe_int (pa_cons (Ow.pe_nmi (pe_callB (call_min2 rfl) (by rfl) T.z_min PyProof.Rows.boot_min (pa_cons (Ow.pe_nmi (pe_callB call_len_seq (by rfl) T.z_len PySem.boot_len (pa_cons (pv 0) pa_nil))) (pa_cons pe_int pa_nil)))) pa_nil)))) pa_nil)) (pg_name (i := 1) sc_law.nd rfl (Or.inl rfl)) (pss_cons (ps_set (i := 2) sc_law.nd rfl (Or.inr rfl) (pe_call (Ow.ok_l_box T) (hr.mono (by decide : 1 ≤ 7)) (by rfl) T.d_l_box.m T.d_l_box.F.kp T.d_l_box.b .nil pass0 (pa_cons (pe_call (Ow.ok_l_cell T) (hr.mono (by decide : 1 ≤ 7)) (by rfl) T.d_l_cell.m T.d_l_cell.F.kp T.d_l_cell.b .nil pass0 (pa_cons (pv 0) (pa_cons (pv 1) pa_nil))) pa_nil)))
        (pss_cons (ps_set (i := 3) sc_law.nd rfl (Or.inr rfl) (pe_call (Ow.ok_l_spec T) (hr.mono (by decide : 2 ≤ 7)) (by rfl) T.d_l_spec.m T.d_l_spec.F.kp T.d_l_spec.b .nil pass0 (pa_cons (pv 2) pa_nil)))
        (pss_cons (ps_set (i := 4) sc_law.nd rfl (Or.inl rfl) (pe_call (Ow.ok_l_kind T) (hr.mono (by decide : 7 ≤ 7)) (by rfl) T.d_l_kind.m T.d_l_kind.F.kp T.d_l_kind.b .nil pass0 (pa_cons (pv 3) pa_nil)))
        (pss_cons (ps_set (i := 5) sc_law.nd rfl (Or.inl rfl) (pe_call (Ow.ok_l_ends T) (hr.mono (by decide : 1 ≤ 7)) (by rfl) T.d_l_ends.m T.d_l_ends.F.kp T.d_l_ends.b .nil pass0 (pa_cons (pv 3) pa_nil)))
        (pss_cons (ps_set (i := 6) sc_law.nd rfl (Or.inl rfl) (pe_op op_cat (pe_lc (g := gName 9) (tt := tYes) rfl sc_law.nd (pi_range1 (by rfl) T.z_range (pa_cons pe_int pa_nil)) (own := [("_law_j", 9)]) (blkOk_by (N := ["_law_script", "_law_k", "_law_box_here", "_law_spec_here", "_law_kind_here", "_law_ends_here", "_law_numbers", "_law_number_here", "_law_first", "_law_j"]) (sc := defScope s_law) (by decide +kernel)) (fun _ _ _ _ _ => (pg_name (i := 9) sc_law.nd rfl (Or.inl rfl))) (fun _ _ _ _ _ => pts_nil) (fun _ _ _ _ _ => (pe_call (Ow.ok_l_number T) (hr.mono (by decide : 2 ≤ 7)) (by rfl) T.d_l_number.m T.d_l_number.F.kp T.d_l_number.b .nil pass0 (pa_cons (pv 2) (pa_cons (pv 3) pa_nil))))) (pe_lst (pa_cons (pe_op op_sub (pe_ix ix_tup (pv 5) pe_int (fun _ _ => rfl)) pe_int) (pa_cons (pe_ix ix_tup (pv 5) pe_int (fun _ _ => rfl)) (pa_cons (pe_ix ix_tup (pv 5) pe_int (fun _ _ => rfl)) (pa_cons (pe_op op_add (pe_ix ix_tup (pv 5) pe_int (fun _ _ => rfl)) pe_int) pa_nil)))))))
        (pss_cons (ps_for PassesOwn.never rfl (pi_list (pv 6)) (pg_name (i := 7) sc_law.nd rfl (Or.inl rfl)) (pss_cons (ps_set (i := 8) sc_law.nd rfl (Or.inl rfl) (Ow.pe_methA (R := fun C sp => (C = T.k_Plain.C ∧ sp = sp_Kind_stop_at T) ∨ (C = T.k_Signed.C ∧ sp = sp_Kind_stop_at T) ∨ (C = T.k_Pointed.C ∧ sp = sp_Kind_stop_at T)) (pv 4) (Ow.mal_or (Ow.mal_one ⟨_, _, _, _, T.k_Plain.cl, T.mt_Plain_stop_at, Ow.ok_Kind_stop_at T, hr.mono (by decide : 4 ≤ 7), T.d_Kind_stop_at.b⟩) (Ow.mal_or (Ow.mal_one ⟨_, _, _, _, T.k_Signed.cl, T.mt_Signed_stop_at, Ow.ok_Kind_stop_at T, hr.mono (by decide : 4 ≤ 7), T.d_Kind_stop_at.b⟩) (Ow.mal_one ⟨_, _, _, _, T.k_Pointed.cl, T.mt_Pointed_stop_at, Ow.ok_Kind_stop_at T, hr.mono (by decide : 4 ≤ 7), T.d_Kind_stop_at.b⟩))) pass0 (pa_cons (pv 7) pa_nil)))
        (pss_one (ps_if (PW.pt (pw_or (pt_not (pt_val (pe_call (Ow.ok_l_right T) (hr.mono (by decide : 5 ≤ 7)) (by rfl) T.d_l_right.m T.d_l_right.F.kp T.d_l_right.b .nil pass0 (pa_cons (pv 4) (pa_cons (pv 3) (pa_cons (pv 7) pa_nil)))))) (pw_or (pt_cmpR (op_neD hr.units) (Ow.pe_methA (R := fun C sp => (C = T.k_Plain.C ∧ sp = sp_Kind_stop_at T) ∨ (C = T.k_Signed.C ∧ sp = sp_Kind_stop_at T) ∨ (C = T.k_Pointed.C ∧ sp = sp_Kind_stop_at T)) (pv 4) (Ow.mal_or (Ow.mal_one ⟨_, _, _, _, T.k_Plain.cl, T.mt_Plain_stop_at, Ow.ok_Kind_stop_at T, hr.mono (by decide : 4 ≤ 7), T.d_Kind_stop_at.b⟩) (Ow.mal_or (Ow.mal_one ⟨_, _, _, _, T.k_Signed.cl, T.mt_Signed_stop_at, Ow.ok_Kind_stop_at T, hr.mono (by decide : 4 ≤ 7), T.d_Kind_stop_at.b⟩) (Ow.mal_one ⟨_, _, _, _, T.k_Pointed.cl, T.mt_Pointed_stop_at, Ow.ok_Kind_stop_at T, hr.mono (by decide : 4 ≤ 7), T.d_Kind_stop_at.b⟩))) pass0 (pa_cons (pv 7) pa_nil)) (pv 8) (nomark _)) (pw_or1 (pt_not (pt_val (pe_callB call_isi (by rfl) T.z_isinstance (by decide +kernel) (pa_cons (pv 4) (pa_cons (pe_glob (v := .ref T.k_Kind.C) rfl T.k_Kind.m rfl) pa_nil))))))))) (pss_one (ps_ret pe_bl)) pss_nil))))
        (pss_one (ps_for PassesOwn.never rfl (pi_reversed (by rfl) T.z_reversed (pa_cons (pv 6) pa_nil)) (pg_name (i := 7) sc_law.nd rfl (Or.inl rfl)) (pss_one (ps_if (pt_not (pt_val (pe_call (Ow.ok_l_right T) (hr.mono (by decide : 5 ≤ 7)) (by rfl) T.d_l_right.m T.d_l_right.F.kp T.d_l_right.b .nil pass0 (pa_cons (pv 4) (pa_cons (pv 3) (pa_cons (pv 7) pa_nil)))))) (pss_one (ps_ret pe_bl)) pss_nil)))))))))))
        (pss_one (ps_ret pe_bl))), ?_⟩
    refine ⟨_, rfl, ?_⟩
    refine ⟨_, _, rfl, .inl c0, ?_⟩
    refine ⟨_, rfl, fun len h_len => ?_⟩
    rw [List.length_map] at h_len
    refine ⟨_, _, rfl, ?_⟩
    refine ⟨_, rfl, fun m h_m => ?_⟩
    have hm_m := Ow.min_ite h_m
    refine ⟨_, _, rfl, ?_⟩
    refine ⟨_, rfl, fun m_2 h_m_2 => ?_⟩
    have hm_m_2 := Ow.max_ite h_m_2
    refine ⟨_, rfl, (by walk_at "o2"), (by walk_at "o2"), ?_⟩
    refine for_range (lo := 0) (fun ixv σ2 H2 => ∃ (v_1 : Option V) (v_2 : Option V) (v_3 : Option V) (v_4 : Option V) (v_5 : Option V) (v_6 : Option V) (v_7 : Option V) (v_8 : Option V) (v_9 : Option V), σ2 = [some (.ref script), v_1, v_2, v_3, v_4, v_5, v_6, v_7, v_8, v_9] ∧ Same H H2 ∧ True) ⟨_, _, _, _, _, _, _, _, _, rfl, (Same.refl _), trivial⟩ ?_ ?_
    · rintro i _ Hn h1 ⟨_, _, _, _, _, _, _, _, _, rfl, h2, _⟩
      refine Ow.gturn (fun l_k h_l_k => ?_)
      refine ⟨_, rfl, ?_⟩
      refine ⟨_, rfl, ?_⟩
      refine ⟨_, _, _, rfl, (Ow.seq h2 c0), (by walk_at "o2"), fun t => ?_⟩
      refine ⟨_, rfl, fun a m_3 p h_p => ?_⟩
      refine ⟨_, rfl, ?_⟩
      refine ⟨_, _, _, _, rfl, upd_same, fun kd a2 c2 h3 p_2 Hn_2 h4 h5 h6 h7 => ?_⟩
      refine ⟨_, rfl, ?_⟩
      refine ⟨_, kd, rfl, h7, (by walk_at "o2"), fun o dx Hn_3 h8 h9 h10 => ?_⟩
      refine ⟨_, rfl, ?_⟩
      refine ⟨_, kd, rfl, (h8 _ _ h7), (by walk_at "o2"), fun lo hi h11 h12 p_3 Hn_4 h13 h14 h15 => ?_⟩
      refine ⟨_, rfl, (by walk_at "o2"), (by walk_at "o2"), ?_⟩
      intro D h_D
      refine lc_range (lo := 0) (fun ixv H2 => ∃ (xs : List Int) (a9 : Int) (m9 : Int) (c9 : Int), Same H H2 ∧ H2 D = some (.lst (xs.map V.int)) ∧ H2 p = some (.lst [.int (a9), .int (m9), .int (c9)]) ∧ H2 p_2 = some (.tup (Ow.tl_Kind kd)) ∧ H2 o = some (.ins (Ow.cls_Kind T ((Ow.kn_Kind kd))) dx (Ow.fl_Kind kd)) ∧ H2 p_3 = some (.tup [.int (lo), .int (hi)]) ∧ (xs.length = ixv) ∧ True) ⟨[], _, _, _, ((((Ow.same_frame (h2.trans (Ow.same_new h_p)) h4 (Same.free h2 h_p)).trans h8).trans h13).trans (Ow.same_new h_D)), (by first | exact upd_same | rfl), (Ow.at_new h_D (h13 _ _ (h8 _ _ h5))), (Ow.at_new h_D (h13 _ _ (h8 _ _ h7))), (Ow.at_new h_D (h13 _ _ h10)), (Ow.at_new h_D h15), rfl, trivial⟩ ?_ ?_
      · rintro i_2 Hn_5 h16 ⟨xs, a9, m9, c9, h17, h18, h19, h20, h21, h22, h23, _⟩
        refine Ow.gturn (fun l_j h_l_j => ?_)
        refine ⟨rfl, ?_⟩
        refine Ow.tyes ?_
        refine iteT ?_
        refine ⟨_, rfl, ?_⟩
        refine ⟨_, rfl, ?_⟩
        refine ⟨_, _, _, _, _, kd, rfl, h19, h20, (by walk_at "o2"), fun ap a2_2 c2_2 Hn_6 h24 h25 => ?_⟩
        refine ⟨_, (h24 _ _ (Ow.ne_sym (ne_of_none (h13 _ _ (h8 _ _ h5)) h_D)) h18), (Ow.szl (by rw [List.length_map]; first | (walk_at "o2"))), ?_⟩
        exact ⟨(xs ++ [ap]), _, _, _, (Ow.same_mut (Ow.same_frame h17 h24 (Same.free h2 h_p)) (Same.free (((Ow.same_frame (h2.trans (Ow.same_new h_p)) h4 (Same.free h2 h_p)).trans h8).trans h13) h_D)), (Ow.ap_ints upd_same), (Ow.at_mut (Ow.ne_sym (Ow.ne_sym (ne_of_none (h13 _ _ (h8 _ _ h5)) h_D))) h25), (Ow.at_mutT (h24 _ _ (Ow.ne_sym (ne_of_none (h13 _ _ (h8 _ _ h5)) h_D)) h18) (Ow.at_fmT h24 h19 h20)), (Ow.at_mut (Ow.ne_sym (Ow.ne_sym (ne_of_none (h13 _ _ h10) h_D))) (h24 _ _ (Ow.ne_sym (ne_of_none h5 h9)) h21)), (Ow.at_mutT (h24 _ _ (Ow.ne_sym (ne_of_none (h13 _ _ (h8 _ _ h5)) h_D)) h18) (Ow.at_fmT h24 h19 h22)), (by rw [List.length_append, List.length_singleton]; omega), trivial⟩
      · rintro Hn_7 ⟨xs_2, a9_2, m9_2, c9_2, h26, h27, h28, h29, h30, h31, h32, _⟩
        refine ⟨_, rfl, ?_⟩
        refine ⟨_, _, _, _, rfl, rfl, (SqT.of h31), (by first | rfl | decide), ?_⟩
        refine ⟨_, _, rfl, rfl, ?_⟩
        refine ⟨_, rfl, ?_⟩
        refine ⟨_, _, _, _, rfl, rfl, (SqT.of h31), (by first | rfl | decide), ?_⟩
        refine ⟨_, rfl, ?_⟩
        refine ⟨_, _, _, _, rfl, rfl, (SqT.of h31), (by first | rfl | decide), ?_⟩
        refine ⟨_, rfl, ?_⟩
        refine ⟨_, _, _, _, rfl, rfl, (SqT.of h31), (by first | rfl | decide), ?_⟩
        refine ⟨_, _, rfl, rfl, ?_⟩
        refine ⟨by show 4 ≤ sizeLine; decide, fun p_4 h_p_4 => ?_⟩
        refine ⟨_, _, _, _, rfl, rfl, (Ow.at_new h_p_4 h27), upd_same, Ow.szc (n := 4000) (xs := xs_2) (ys := [lo - 1, lo, hi, hi + 1]) (by walk_at "o2") (by decide), fun p_5 h_p_5 => ?_⟩
        refine ⟨_, rfl, ?_⟩
        refine ⟨_, rfl, ⟨_, (SqL.of (Ow.cat_at (xs := xs_2) (ys := [lo - 1, lo, hi, hi + 1])))⟩, ?_⟩
        refine for_list (K := K) (a := p_5) (xs := ((xs_2 ++ [lo - 1, lo, hi, hi + 1]).map V.int)) (fun ixv σ2 H2 => ∃ (v_7 : Option V) (v_8 : Option V) (v_9 : Option V), σ2 = [some (.ref script), some (.int (l_k)), some (.ref p), some (.ref p_2), some (.ref o), some (.ref p_3), some (.ref p_5), v_7, v_8, v_9] ∧ Same H H2 ∧ H2 p = some (.lst [.int (a9_2), .int (m9_2), .int (c9_2)]) ∧ H2 p_2 = some (.tup (Ow.tl_Kind kd)) ∧ H2 o = some (.ins (Ow.cls_Kind T ((Ow.kn_Kind kd))) dx (Ow.fl_Kind kd)) ∧ H2 p_3 = some (.tup [.int (lo), .int (hi)]) ∧ H2 p_5 = some (.lst ((xs_2 ++ [lo - 1, lo, hi, hi + 1]).map V.int)) ∧ True) ⟨_, _, _, rfl, ((h26.trans (Ow.same_new h_p_4)).trans (Ow.same_new h_p_5)), (Ow.at_new h_p_5 (Ow.at_new h_p_4 h28)), (Ow.at_new h_p_5 (Ow.at_new h_p_4 h29)), (Ow.at_new h_p_5 (Ow.at_new h_p_4 h30)), (Ow.at_new h_p_5 (Ow.at_new h_p_4 h31)), (Ow.cat_at (xs := xs_2) (ys := [lo - 1, lo, hi, hi + 1])), trivial⟩ (fun i σ2 H2 _ hz => ?_) ?_ ?_
        · obtain ⟨_, _, _, rfl, h33, h34, h35, h36, h37, h38, _⟩ := hz
          exact (SqL.of h38)
        · rintro i_3 xit _ Hn_8 h39 ⟨_, _, _, rfl, h40, h41, h42, h43, h44, h45, _⟩
          obtain ⟨l_number_here, rfl, h_l_number_here⟩ := Ow.ints_get (xs := (xs_2 ++ [lo - 1, lo, hi, hi + 1])) h39
          refine ⟨_, rfl, ?_⟩
          refine ⟨_, _, _, Ow.cls_Kind T ((Ow.kn_Kind kd)), sp_Kind_stop_at T, rfl, (by cases ((Ow.kn_Kind kd)) <;> first | exact .inl ⟨rfl, rfl⟩ | exact .inr (.inl ⟨rfl, rfl⟩) | exact .inr (.inr (⟨rfl, rfl⟩))), h43, (by cases kd <;> rfl), ?_⟩
          refine ⟨_, rfl, ?_⟩
          refine ⟨_, _, kd, _, rfl, h43, (by walk_at "o2"), fun b h46 p_6 Hn_9 h47 h48 h49 => ?_⟩
          refine ⟨_, rfl, ?_⟩
          refine ⟨_, rfl, ?_⟩
          refine ⟨_, rfl, ?_⟩
          refine ⟨_, _, _, kd, _, rfl, (h47 _ _ h43), (h47 _ _ h42), (by walk_at "o2"), fun Hn_10 h50 => ?_⟩
          refine ⟨_, rfl, ?_⟩
          refine iteF ?_
          refine ⟨_, rfl, ?_⟩
          refine ⟨_, _, _, Ow.cls_Kind T ((Ow.kn_Kind kd)), sp_Kind_stop_at T, rfl, (by cases ((Ow.kn_Kind kd)) <;> first | exact .inl ⟨rfl, rfl⟩ | exact .inr (.inl ⟨rfl, rfl⟩) | exact .inr (.inr (⟨rfl, rfl⟩))), (h50 _ _ (h47 _ _ h43)), (by cases kd <;> rfl), ?_⟩
          refine ⟨_, rfl, ?_⟩
          refine ⟨_, _, kd, _, rfl, (h50 _ _ (h47 _ _ h43)), (by walk_at "o2"), fun b_2 h51 p_7 Hn_11 h52 h53 h54 => ?_⟩
          refine ⟨_, rfl, ?_⟩
          refine ⟨(.tuple [PyData.int (Ow.knr kd l_number_here % 2 ^ (Ow.kw kd).toNat), PyData.bool b_2]), (.tuple [PyData.int (Ow.knr kd l_number_here % 2 ^ (Ow.kw kd).toNat), PyData.bool b]), (.tup (SqT.of h54) (.cons (.int _) (.cons (.bl _) .nil))), (.tup (SqT.of (h52 _ _ (h50 _ _ h49))) (.cons (.int _) (.cons (.bl _) .nil))), (by first | rfl | exact Ow.shp (by first | rfl | (simp only [PyData.canLay0, PyData.canLayAll0, Bool.and_true, Bool.true_and]; first | decide +kernel | assumption | (simp_all; done))) (by simp [PyData.depth, PyData.depthAll])), (by first | rfl | exact Ow.shp (by first | rfl | (simp only [PyData.canLay0, PyData.canLayAll0, Bool.and_true, Bool.true_and]; first | decide +kernel | assumption | (simp_all; done))) (by simp [PyData.depth, PyData.depthAll])), ?_⟩
          rw [show PyData.eqv ((.tuple [PyData.int (Ow.knr kd l_number_here % 2 ^ (Ow.kw kd).toNat), PyData.bool b_2])) ((.tuple [PyData.int (Ow.knr kd l_number_here % 2 ^ (Ow.kw kd).toNat), PyData.bool b])) = decide (b_2 = b) by (rw [Bool.eq_iff_iff]; simp [PyData.eqv, PyData.eqvAll])]
          refine ⟨_, rfl, ?_⟩
          refine Ow.ifnd (fun h55 => ?_) (fun h55 => ?_)
          · refine iteT ?_
            exact ((by first | exact h55 ⟨rfl, Ow.bq (by assumption) (by assumption)⟩ | exact h55 (Ow.bq (by assumption) (by assumption))) : False).elim
          · refine ⟨_, rfl, ?_⟩
            refine ⟨_, _, _, _, true, rfl, .own _, (Ow.tyIns (Ow.kcl_Kind T ((Ow.kn_Kind kd))) (Ow.icf_Kind T ((Ow.kn_Kind kd))) (h52 _ _ (h50 _ _ (h47 _ _ h43)))), (Ow.kicf_Kind_Kind T ((Ow.kn_Kind kd))), ?_⟩
            refine ⟨_, rfl, ?_⟩
            refine iteF ?_
            exact ⟨_, _, _, rfl, (((h40.trans h47).trans h50).trans h52), (h52 _ _ (h50 _ _ (h47 _ _ h41))), (h52 _ _ (h50 _ _ (h47 _ _ h42))), (h52 _ _ (h50 _ _ (h47 _ _ h43))), (h52 _ _ (h50 _ _ (h47 _ _ h44))), (h52 _ _ (h50 _ _ (h47 _ _ h45))), trivial⟩
        · rintro _ Hn_12 ⟨_, _, _, rfl, h56, h57, h58, h59, h60, h61, _⟩
          refine ⟨_, rfl, ?_⟩
          refine ⟨_, _, rfl, (SqL.of h61), ?_⟩
          refine RT.for_Itv (K := K) (a := p_5) (xs := ((xs_2 ++ [lo - 1, lo, hi, hi + 1]).map V.int)) (fun ixv σ2 H2 => ∃ (v_7 : Option V) (v_8 : Option V) (v_9 : Option V), σ2 = [some (.ref script), some (.int (l_k)), some (.ref p), some (.ref p_2), some (.ref o), some (.ref p_3), some (.ref p_5), v_7, v_8, v_9] ∧ Same H H2 ∧ H2 p = some (.lst [.int (a9_2), .int (m9_2), .int (c9_2)]) ∧ H2 p_2 = some (.tup (Ow.tl_Kind kd)) ∧ H2 o = some (.ins (Ow.cls_Kind T ((Ow.kn_Kind kd))) dx (Ow.fl_Kind kd)) ∧ H2 p_3 = some (.tup [.int (lo), .int (hi)]) ∧ H2 p_5 = some (.lst ((xs_2 ++ [lo - 1, lo, hi, hi + 1]).map V.int)) ∧ True) ⟨_, _, _, rfl, h56, h57, h58, h59, h60, h61, trivial⟩ (fun i σ2 H2 hz => ?_) ?_ ?_
          · obtain ⟨_, _, _, rfl, h62, h63, h64, h65, h66, h67, _⟩ := hz
            exact (SqL.of h67)
          · rintro i_4 xit _ Hn_13 _ h68 ⟨_, _, _, rfl, h69, h70, h71, h72, h73, h74, _⟩
            obtain ⟨l_number_here_2, rfl, h_l_number_here_2⟩ := Ow.ints_get (xs := (xs_2 ++ [lo - 1, lo, hi, hi + 1])) h68
            refine ⟨_, rfl, ?_⟩
            refine ⟨_, rfl, ?_⟩
            refine ⟨_, rfl, ?_⟩
            refine ⟨_, _, _, kd, _, rfl, h72, h71, (by walk_at "o2"), fun Hn_14 h75 => ?_⟩
            refine ⟨_, rfl, ?_⟩
            refine iteF ?_
            exact ⟨_, _, _, rfl, (h69.trans h75), (h75 _ _ h70), (h75 _ _ h71), (h75 _ _ h72), (h75 _ _ h73), (h75 _ _ h74), trivial⟩
          · rintro _ Hn_15 ⟨_, _, _, rfl, h76, h77, h78, h79, h80, h81, _⟩
            exact ⟨_, _, _, _, _, _, _, _, _, rfl, h76, trivial⟩
    · rintro _ Hn_16 ⟨_, _, _, _, _, _, _, _, _, rfl, h82, _⟩
      exact kont _ h82
end
def tx_mk {K : PySem.W.Frag} {h : Heap} {mg : Str → Option Value} (X : K.In h) (G : h.Ns mainGlobals mg) {K_Kind : Addr} {K_Plain : Addr} {K_Pointed : Addr} {K_Signed : Addr}             {f_l_box : Addr} {od_l_box an_l_box : Option Addr} {oc_l_box kV_l_box dc_l_box pm_l_box cd_l_box ct_l_box : Value} {sl_l_box : Array (Option Value)} {f_l_take : Addr} {od_l_take an_l_take : Option Addr} {oc_l_take kV_l_take dc_l_take pm_l_take cd_l_take ct_l_take : Value} {sl_l_take : Array (Option Value)} {f_l_spec : Addr} {od_l_spec an_l_spec : Option Addr} {oc_l_spec kV_l_spec dc_l_spec pm_l_spec cd_l_spec ct_l_spec : Value} {sl_l_spec : Array (Option Value)} {f_is_whole : Addr} {od_is_whole an_is_whole : Option Addr} {oc_is_whole kV_is_whole dc_is_whole pm_is_whole cd_is_whole ct_is_whole : Value} {sl_is_whole : Array (Option Value)} {f_need_width : Addr} {od_need_width an_need_width : Option Addr} {oc_need_width kV_need_width dc_need_width pm_need_width cd_need_width ct_need_width : Value} {sl_need_width : Array (Option Value)} {f_Kind___init__ : Addr} {od_Kind___init__ an_Kind___init__ : Option Addr} {oc_Kind___init__ kV_Kind___init__ dc_Kind___init__ pm_Kind___init__ cd_Kind___init__ ct_Kind___init__ : Value} {sl_Kind___init__ : Array (Option Value)} {f_Pointed___init__ : Addr} {od_Pointed___init__ an_Pointed___init__ : Option Addr} {oc_Pointed___init__ kV_Pointed___init__ dc_Pointed___init__ pm_Pointed___init__ cd_Pointed___init__ ct_Pointed___init__ : Value} {sl_Pointed___init__ : Array (Option Value)} {f_Plain___init__ : Addr} {od_Plain___init__ an_Plain___init__ : Option Addr} {oc_Plain___init__ kV_Plain___init__ dc_Plain___init__ pm_Plain___init__ cd_Plain___init__ ct_Plain___init__ : Value} {sl_Plain___init__ : Array (Option Value)} {f_Signed___init__ : Addr} {od_Signed___init__ an_Signed___init__ : Option Addr} {oc_Signed___init__ kV_Signed___init__ dc_Signed___init__ pm_Signed___init__ cd_Signed___init__ ct_Signed___init__ : Value} {sl_Signed___init__ : Array (Option Value)} {f_l_kind : Addr} {od_l_kind an_l_kind : Option Addr} {oc_l_kind kV_l_kind dc_l_kind pm_l_kind cd_l_kind ct_l_kind : Value} {sl_l_kind : Array (Option Value)} {f_l_ends : Addr} {od_l_ends an_l_ends : Option Addr} {oc_l_ends kV_l_ends dc_l_ends pm_l_ends cd_l_ends ct_l_ends : Value} {sl_l_ends : Array (Option Value)} {f_l_cell : Addr} {od_l_cell an_l_cell : Option Addr} {oc_l_cell kV_l_cell dc_l_cell pm_l_cell cd_l_cell ct_l_cell : Value} {sl_l_cell : Array (Option Value)} {f_Plain_least : Addr} {od_Plain_least an_Plain_least : Option Addr} {oc_Plain_least kV_Plain_least dc_Plain_least pm_Plain_least cd_Plain_least ct_Plain_least : Value} {sl_Plain_least : Array (Option Value)}  {f_Kind_least : Addr} {od_Kind_least an_Kind_least : Option Addr} {oc_Kind_least kV_Kind_least dc_Kind_least pm_Kind_least cd_Kind_least ct_Kind_least : Value} {sl_Kind_least : Array (Option Value)}   {f_Plain_greatest : Addr} {od_Plain_greatest an_Plain_greatest : Option Addr} {oc_Plain_greatest kV_Plain_greatest dc_Plain_greatest pm_Plain_greatest cd_Plain_greatest ct_Plain_greatest : Value} {sl_Plain_greatest : Array (Option Value)}  {f_Kind_greatest : Addr} {od_Kind_greatest an_Kind_greatest : Option Addr} {oc_Kind_greatest kV_Kind_greatest dc_Kind_greatest pm_Kind_greatest cd_Kind_greatest ct_Kind_greatest : Value} {sl_Kind_greatest : Array (Option Value)}   {f_Kind_is_count : Addr} {od_Kind_is_count an_Kind_is_count : Option Addr} {oc_Kind_is_count kV_Kind_is_count dc_Kind_is_count pm_Kind_is_count cd_Kind_is_count ct_Kind_is_count : Value} {sl_Kind_is_count : Array (Option Value)}    {f_Kind_bits_of : Addr} {od_Kind_bits_of an_Kind_bits_of : Option Addr} {oc_Kind_bits_of kV_Kind_bits_of dc_Kind_bits_of pm_Kind_bits_of cd_Kind_bits_of ct_Kind_bits_of : Value} {sl_Kind_bits_of : Array (Option Value)}    {f_Kind_stop_at : Addr} {od_Kind_stop_at an_Kind_stop_at : Option Addr} {oc_Kind_stop_at kV_Kind_stop_at dc_Kind_stop_at pm_Kind_stop_at cd_Kind_stop_at ct_Kind_stop_at : Value} {sl_Kind_stop_at : Array (Option Value)}    {f_l_number : Addr} {od_l_number an_l_number : Option Addr} {oc_l_number kV_l_number dc_l_number pm_l_number cd_l_number ct_l_number : Value} {sl_l_number : Array (Option Value)} {f_l_whole : Addr} {od_l_whole an_l_whole : Option Addr} {oc_l_whole kV_l_whole dc_l_whole pm_l_whole cd_l_whole ct_l_whole : Value} {sl_l_whole : Array (Option Value)} {f_l_pair : Addr} {od_l_pair an_l_pair : Option Addr} {oc_l_pair kV_l_pair dc_l_pair pm_l_pair cd_l_pair ct_l_pair : Value} {sl_l_pair : Array (Option Value)} {f_Kind_go_round : Addr} {od_Kind_go_round an_Kind_go_round : Option Addr} {oc_Kind_go_round kV_Kind_go_round dc_Kind_go_round pm_Kind_go_round cd_Kind_go_round ct_Kind_go_round : Value} {sl_Kind_go_round : Array (Option Value)}    {f_l_right : Addr} {od_l_right an_l_right : Option Addr} {oc_l_right kV_l_right dc_l_right pm_l_right cd_l_right ct_l_right : Value} {sl_l_right : Array (Option Value)} {f_law : Addr} {od_law an_law : Option Addr} {oc_law kV_law dc_law pm_law cd_law ct_law : Value} {sl_law : Array (Option Value)}    {mcc_Kind___init__ : Value} {tk_LEAST_WIDTH : Tok} {tk_GREATEST_WIDTH : Tok}         
    (ak_Kind : PySem.W.nsIn K mainGlobals "Kind" = some (some (.ref K_Kind)))
    (kp_Kind : PySem.W.plainGet K K_Kind Str.empty = true)
    (kh_Kind : PySem.W.hasDictIn K K_Kind = true)
    (ko_Kind : PySem.W.plainOver K K_Kind = true)
    (ks_Kind : PySem.W.findIn K (.ref K_Kind) "__setattr__" = some (some (.builtin "object.__setattr__")))
    (ak_Plain : PySem.W.nsIn K mainGlobals "Plain" = some (some (.ref K_Plain)))
    (kp_Plain : PySem.W.plainGet K K_Plain Str.empty = true)
    (kh_Plain : PySem.W.hasDictIn K K_Plain = true)
    (ko_Plain : PySem.W.plainOver K K_Plain = true)
    (ks_Plain : PySem.W.findIn K (.ref K_Plain) "__setattr__" = some (some (.builtin "object.__setattr__")))
    (ak_Pointed : PySem.W.nsIn K mainGlobals "Pointed" = some (some (.ref K_Pointed)))
    (kp_Pointed : PySem.W.plainGet K K_Pointed Str.empty = true)
    (kh_Pointed : PySem.W.hasDictIn K K_Pointed = true)
    (ko_Pointed : PySem.W.plainOver K K_Pointed = true)
    (ks_Pointed : PySem.W.findIn K (.ref K_Pointed) "__setattr__" = some (some (.builtin "object.__setattr__")))
    (ak_Signed : PySem.W.nsIn K mainGlobals "Signed" = some (some (.ref K_Signed)))
    (kp_Signed : PySem.W.plainGet K K_Signed Str.empty = true)
    (kh_Signed : PySem.W.hasDictIn K K_Signed = true)
    (ko_Signed : PySem.W.plainOver K K_Signed = true)
    (ks_Signed : PySem.W.findIn K (.ref K_Signed) "__setattr__" = some (some (.builtin "object.__setattr__")))
    (ica_Plain : PySem.W.findIn K (.ref K_Plain) "__class__" = some (some (.builtin "object.__class__")))
    (icn_Plain : PySem.W.specialIn K (.builtin "object.__class__") "__get__" = some (some (.builtin "getset_descriptor.__get__")))
    (ict_Plain : PySem.W.takesIn K (.builtin "object.__class__") = some true)
    (icm_Plain : PySem.W.mroIn K K_Plain (.type "object") = some true)
    (ica_Pointed : PySem.W.findIn K (.ref K_Pointed) "__class__" = some (some (.builtin "object.__class__")))
    (icn_Pointed : PySem.W.specialIn K (.builtin "object.__class__") "__get__" = some (some (.builtin "getset_descriptor.__get__")))
    (ict_Pointed : PySem.W.takesIn K (.builtin "object.__class__") = some true)
    (icm_Pointed : PySem.W.mroIn K K_Pointed (.type "object") = some true)
    (ica_Signed : PySem.W.findIn K (.ref K_Signed) "__class__" = some (some (.builtin "object.__class__")))
    (icn_Signed : PySem.W.specialIn K (.builtin "object.__class__") "__get__" = some (some (.builtin "getset_descriptor.__get__")))
    (ict_Signed : PySem.W.takesIn K (.builtin "object.__class__") = some true)
    (icm_Signed : PySem.W.mroIn K K_Signed (.type "object") = some true)
    (k1_kic_Plain_Kind : (Value.ref K_Plain == Value.ref K_Kind) = false)
    (k2_kic_Plain_Kind : PySem.W.isClsIn K K_Kind = true)
    (k3_kic_Plain_Kind : PySem.W.typeIn K (.ref K_Kind) = some (.type "type"))
    (k4_kic_Plain_Kind : PySem.W.subIn K (.ref K_Plain) (.ref K_Kind) = some true)
    (k1_kic_Pointed_Kind : (Value.ref K_Pointed == Value.ref K_Kind) = false)
    (k2_kic_Pointed_Kind : PySem.W.isClsIn K K_Kind = true)
    (k3_kic_Pointed_Kind : PySem.W.typeIn K (.ref K_Kind) = some (.type "type"))
    (k4_kic_Pointed_Kind : PySem.W.subIn K (.ref K_Pointed) (.ref K_Kind) = some true)
    (k1_kic_Signed_Kind : (Value.ref K_Signed == Value.ref K_Kind) = false)
    (k2_kic_Signed_Kind : PySem.W.isClsIn K K_Kind = true)
    (k3_kic_Signed_Kind : PySem.W.typeIn K (.ref K_Kind) = some (.type "type"))
    (k4_kic_Signed_Kind : PySem.W.subIn K (.ref K_Signed) (.ref K_Kind) = some true)
    (nah_Plain_point : PySem.W.findIn K (.ref K_Plain) "point" = some none)
    (nah_Plain_width : PySem.W.findIn K (.ref K_Plain) "width" = some none)
    (nah_Pointed_point : PySem.W.findIn K (.ref K_Pointed) "point" = some none)
    (nah_Pointed_width : PySem.W.findIn K (.ref K_Pointed) "width" = some none)
    (nah_Signed_point : PySem.W.findIn K (.ref K_Signed) "point" = some none)
    (nah_Signed_width : PySem.W.findIn K (.ref K_Signed) "width" = some none)
    (a_l_box : PySem.W.nsIn K mainGlobals "_law_box" = some (some (.ref f_l_box)))
    (l_l_box : K.lookup f_l_box = some ⟨oc_l_box, od_l_box, .func (PySem.W.fnOf "_law_box" "_law_box" (defArgs s_l_box) (defBody s_l_box) (defScope s_l_box) .none kV_l_box dc_l_box pm_l_box an_l_box cd_l_box ct_l_box), sl_l_box⟩)
    (c_l_box : PySem.W.codeIn K cd_l_box "_law_box" = true)
    (k_l_box : PySem.W.keepIn K (.ref f_l_box) = true)
    (a_l_take : PySem.W.nsIn K mainGlobals "_law_take" = some (some (.ref f_l_take)))
    (l_l_take : K.lookup f_l_take = some ⟨oc_l_take, od_l_take, .func (PySem.W.fnOf "_law_take" "_law_take" (defArgs s_l_take) (defBody s_l_take) (defScope s_l_take) .none kV_l_take dc_l_take pm_l_take an_l_take cd_l_take ct_l_take), sl_l_take⟩)
    (c_l_take : PySem.W.codeIn K cd_l_take "_law_take" = true)
    (k_l_take : PySem.W.keepIn K (.ref f_l_take) = true)
    (a_l_spec : PySem.W.nsIn K mainGlobals "_law_spec" = some (some (.ref f_l_spec)))
    (l_l_spec : K.lookup f_l_spec = some ⟨oc_l_spec, od_l_spec, .func (PySem.W.fnOf "_law_spec" "_law_spec" (defArgs s_l_spec) (defBody s_l_spec) (defScope s_l_spec) .none kV_l_spec dc_l_spec pm_l_spec an_l_spec cd_l_spec ct_l_spec), sl_l_spec⟩)
    (c_l_spec : PySem.W.codeIn K cd_l_spec "_law_spec" = true)
    (k_l_spec : PySem.W.keepIn K (.ref f_l_spec) = true)
    (a_is_whole : PySem.W.nsIn K mainGlobals "is_whole" = some (some (.ref f_is_whole)))
    (l_is_whole : K.lookup f_is_whole = some ⟨oc_is_whole, od_is_whole, .func (PySem.W.fnOf "is_whole" "is_whole" (defArgs s_is_whole) (defBody s_is_whole) (defScope s_is_whole) .none kV_is_whole dc_is_whole pm_is_whole an_is_whole cd_is_whole ct_is_whole), sl_is_whole⟩)
    (c_is_whole : PySem.W.codeIn K cd_is_whole "is_whole" = true)
    (k_is_whole : PySem.W.keepIn K (.ref f_is_whole) = true)
    (a_need_width : PySem.W.nsIn K mainGlobals "need_width" = some (some (.ref f_need_width)))
    (l_need_width : K.lookup f_need_width = some ⟨oc_need_width, od_need_width, .func (PySem.W.fnOf "need_width" "need_width" (defArgs s_need_width) (defBody s_need_width) (defScope s_need_width) .none kV_need_width dc_need_width pm_need_width an_need_width cd_need_width ct_need_width), sl_need_width⟩)
    (c_need_width : PySem.W.codeIn K cd_need_width "need_width" = true)
    (k_need_width : PySem.W.keepIn K (.ref f_need_width) = true)
    (l_Kind___init__ : K.lookup f_Kind___init__ = some ⟨oc_Kind___init__, od_Kind___init__, .func (PySem.W.fnOf "__init__" "Kind.__init__" (defArgs s_Kind___init__) (defBody s_Kind___init__) (defScope s_Kind___init__) .none kV_Kind___init__ dc_Kind___init__ pm_Kind___init__ an_Kind___init__ cd_Kind___init__ ct_Kind___init__), sl_Kind___init__⟩)
    (c_Kind___init__ : PySem.W.codeIn K cd_Kind___init__ "Kind.__init__" = true)
    (k_Kind___init__ : PySem.W.keepIn K (.ref f_Kind___init__) = true)
    (l_Pointed___init__ : K.lookup f_Pointed___init__ = some ⟨oc_Pointed___init__, od_Pointed___init__, .func (PySem.W.fnOf "__init__" "Pointed.__init__" (defArgs s_Pointed___init__) (defBody s_Pointed___init__) (defScope s_Pointed___init__) .none kV_Pointed___init__ dc_Pointed___init__ pm_Pointed___init__ an_Pointed___init__ cd_Pointed___init__ ct_Pointed___init__), sl_Pointed___init__⟩)
    (c_Pointed___init__ : PySem.W.codeIn K cd_Pointed___init__ "Pointed.__init__" = true)
    (k_Pointed___init__ : PySem.W.keepIn K (.ref f_Pointed___init__) = true)
    (l_Plain___init__ : K.lookup f_Plain___init__ = some ⟨oc_Plain___init__, od_Plain___init__, .func (PySem.W.fnOf "__init__" "Plain.__init__" (defArgs s_Plain___init__) (defBody s_Plain___init__) (defScope s_Plain___init__) .none kV_Plain___init__ dc_Plain___init__ pm_Plain___init__ an_Plain___init__ cd_Plain___init__ ct_Plain___init__), sl_Plain___init__⟩)
    (c_Plain___init__ : PySem.W.codeIn K cd_Plain___init__ "Plain.__init__" = true)
    (k_Plain___init__ : PySem.W.keepIn K (.ref f_Plain___init__) = true)
    (l_Signed___init__ : K.lookup f_Signed___init__ = some ⟨oc_Signed___init__, od_Signed___init__, .func (PySem.W.fnOf "__init__" "Signed.__init__" (defArgs s_Signed___init__) (defBody s_Signed___init__) (defScope s_Signed___init__) .none kV_Signed___init__ dc_Signed___init__ pm_Signed___init__ an_Signed___init__ cd_Signed___init__ ct_Signed___init__), sl_Signed___init__⟩)
    (c_Signed___init__ : PySem.W.codeIn K cd_Signed___init__ "Signed.__init__" = true)
    (k_Signed___init__ : PySem.W.keepIn K (.ref f_Signed___init__) = true)
    (a_l_kind : PySem.W.nsIn K mainGlobals "_law_kind" = some (some (.ref f_l_kind)))
    (l_l_kind : K.lookup f_l_kind = some ⟨oc_l_kind, od_l_kind, .func (PySem.W.fnOf "_law_kind" "_law_kind" (defArgs s_l_kind) (defBody s_l_kind) (defScope s_l_kind) .none kV_l_kind dc_l_kind pm_l_kind an_l_kind cd_l_kind ct_l_kind), sl_l_kind⟩)
    (c_l_kind : PySem.W.codeIn K cd_l_kind "_law_kind" = true)
    (k_l_kind : PySem.W.keepIn K (.ref f_l_kind) = true)
    (a_l_ends : PySem.W.nsIn K mainGlobals "_law_ends" = some (some (.ref f_l_ends)))
    (l_l_ends : K.lookup f_l_ends = some ⟨oc_l_ends, od_l_ends, .func (PySem.W.fnOf "_law_ends" "_law_ends" (defArgs s_l_ends) (defBody s_l_ends) (defScope s_l_ends) .none kV_l_ends dc_l_ends pm_l_ends an_l_ends cd_l_ends ct_l_ends), sl_l_ends⟩)
    (c_l_ends : PySem.W.codeIn K cd_l_ends "_law_ends" = true)
    (k_l_ends : PySem.W.keepIn K (.ref f_l_ends) = true)
    (a_l_cell : PySem.W.nsIn K mainGlobals "_law_cell" = some (some (.ref f_l_cell)))
    (l_l_cell : K.lookup f_l_cell = some ⟨oc_l_cell, od_l_cell, .func (PySem.W.fnOf "_law_cell" "_law_cell" (defArgs s_l_cell) (defBody s_l_cell) (defScope s_l_cell) .none kV_l_cell dc_l_cell pm_l_cell an_l_cell cd_l_cell ct_l_cell), sl_l_cell⟩)
    (c_l_cell : PySem.W.codeIn K cd_l_cell "_law_cell" = true)
    (k_l_cell : PySem.W.keepIn K (.ref f_l_cell) = true)
    (l_Plain_least : K.lookup f_Plain_least = some ⟨oc_Plain_least, od_Plain_least, .func (PySem.W.fnOf "least" "Plain.least" (defArgs s_Plain_least) (defBody s_Plain_least) (defScope s_Plain_least) .none kV_Plain_least dc_Plain_least pm_Plain_least an_Plain_least cd_Plain_least ct_Plain_least), sl_Plain_least⟩)
    (c_Plain_least : PySem.W.codeIn K cd_Plain_least "Plain.least" = true)
    (k_Plain_least : PySem.W.keepIn K (.ref f_Plain_least) = true)
    (ma_Plain_least : PySem.W.findIn K (.ref K_Plain) "least" = some (some (.ref f_Plain_least)))
    (mf_Plain_least : PySem.W.isFn K (.ref f_Plain_least) = true)
    (l_Kind_least : K.lookup f_Kind_least = some ⟨oc_Kind_least, od_Kind_least, .func (PySem.W.fnOf "least" "Kind.least" (defArgs s_Kind_least) (defBody s_Kind_least) (defScope s_Kind_least) .none kV_Kind_least dc_Kind_least pm_Kind_least an_Kind_least cd_Kind_least ct_Kind_least), sl_Kind_least⟩)
    (c_Kind_least : PySem.W.codeIn K cd_Kind_least "Kind.least" = true)
    (k_Kind_least : PySem.W.keepIn K (.ref f_Kind_least) = true)
    (ma_Pointed_least : PySem.W.findIn K (.ref K_Pointed) "least" = some (some (.ref f_Kind_least)))
    (mf_Pointed_least : PySem.W.isFn K (.ref f_Kind_least) = true)
    (ma_Signed_least : PySem.W.findIn K (.ref K_Signed) "least" = some (some (.ref f_Kind_least)))
    (mf_Signed_least : PySem.W.isFn K (.ref f_Kind_least) = true)
    (l_Plain_greatest : K.lookup f_Plain_greatest = some ⟨oc_Plain_greatest, od_Plain_greatest, .func (PySem.W.fnOf "greatest" "Plain.greatest" (defArgs s_Plain_greatest) (defBody s_Plain_greatest) (defScope s_Plain_greatest) .none kV_Plain_greatest dc_Plain_greatest pm_Plain_greatest an_Plain_greatest cd_Plain_greatest ct_Plain_greatest), sl_Plain_greatest⟩)
    (c_Plain_greatest : PySem.W.codeIn K cd_Plain_greatest "Plain.greatest" = true)
    (k_Plain_greatest : PySem.W.keepIn K (.ref f_Plain_greatest) = true)
    (ma_Plain_greatest : PySem.W.findIn K (.ref K_Plain) "greatest" = some (some (.ref f_Plain_greatest)))
    (mf_Plain_greatest : PySem.W.isFn K (.ref f_Plain_greatest) = true)
    (l_Kind_greatest : K.lookup f_Kind_greatest = some ⟨oc_Kind_greatest, od_Kind_greatest, .func (PySem.W.fnOf "greatest" "Kind.greatest" (defArgs s_Kind_greatest) (defBody s_Kind_greatest) (defScope s_Kind_greatest) .none kV_Kind_greatest dc_Kind_greatest pm_Kind_greatest an_Kind_greatest cd_Kind_greatest ct_Kind_greatest), sl_Kind_greatest⟩)
    (c_Kind_greatest : PySem.W.codeIn K cd_Kind_greatest "Kind.greatest" = true)
    (k_Kind_greatest : PySem.W.keepIn K (.ref f_Kind_greatest) = true)
    (ma_Pointed_greatest : PySem.W.findIn K (.ref K_Pointed) "greatest" = some (some (.ref f_Kind_greatest)))
    (mf_Pointed_greatest : PySem.W.isFn K (.ref f_Kind_greatest) = true)
    (ma_Signed_greatest : PySem.W.findIn K (.ref K_Signed) "greatest" = some (some (.ref f_Kind_greatest)))
    (mf_Signed_greatest : PySem.W.isFn K (.ref f_Kind_greatest) = true)
    (l_Kind_is_count : K.lookup f_Kind_is_count = some ⟨oc_Kind_is_count, od_Kind_is_count, .func (PySem.W.fnOf "is_count" "Kind.is_count" (defArgs s_Kind_is_count) (defBody s_Kind_is_count) (defScope s_Kind_is_count) .none kV_Kind_is_count dc_Kind_is_count pm_Kind_is_count an_Kind_is_count cd_Kind_is_count ct_Kind_is_count), sl_Kind_is_count⟩)
    (c_Kind_is_count : PySem.W.codeIn K cd_Kind_is_count "Kind.is_count" = true)
    (k_Kind_is_count : PySem.W.keepIn K (.ref f_Kind_is_count) = true)
    (ma_Plain_is_count : PySem.W.findIn K (.ref K_Plain) "is_count" = some (some (.ref f_Kind_is_count)))
    (mf_Plain_is_count : PySem.W.isFn K (.ref f_Kind_is_count) = true)
    (ma_Pointed_is_count : PySem.W.findIn K (.ref K_Pointed) "is_count" = some (some (.ref f_Kind_is_count)))
    (mf_Pointed_is_count : PySem.W.isFn K (.ref f_Kind_is_count) = true)
    (ma_Signed_is_count : PySem.W.findIn K (.ref K_Signed) "is_count" = some (some (.ref f_Kind_is_count)))
    (mf_Signed_is_count : PySem.W.isFn K (.ref f_Kind_is_count) = true)
    (l_Kind_bits_of : K.lookup f_Kind_bits_of = some ⟨oc_Kind_bits_of, od_Kind_bits_of, .func (PySem.W.fnOf "bits_of" "Kind.bits_of" (defArgs s_Kind_bits_of) (defBody s_Kind_bits_of) (defScope s_Kind_bits_of) .none kV_Kind_bits_of dc_Kind_bits_of pm_Kind_bits_of an_Kind_bits_of cd_Kind_bits_of ct_Kind_bits_of), sl_Kind_bits_of⟩)
    (c_Kind_bits_of : PySem.W.codeIn K cd_Kind_bits_of "Kind.bits_of" = true)
    (k_Kind_bits_of : PySem.W.keepIn K (.ref f_Kind_bits_of) = true)
    (ma_Plain_bits_of : PySem.W.findIn K (.ref K_Plain) "bits_of" = some (some (.ref f_Kind_bits_of)))
    (mf_Plain_bits_of : PySem.W.isFn K (.ref f_Kind_bits_of) = true)
    (ma_Pointed_bits_of : PySem.W.findIn K (.ref K_Pointed) "bits_of" = some (some (.ref f_Kind_bits_of)))
    (mf_Pointed_bits_of : PySem.W.isFn K (.ref f_Kind_bits_of) = true)
    (ma_Signed_bits_of : PySem.W.findIn K (.ref K_Signed) "bits_of" = some (some (.ref f_Kind_bits_of)))
    (mf_Signed_bits_of : PySem.W.isFn K (.ref f_Kind_bits_of) = true)
    (l_Kind_stop_at : K.lookup f_Kind_stop_at = some ⟨oc_Kind_stop_at, od_Kind_stop_at, .func (PySem.W.fnOf "stop_at" "Kind.stop_at" (defArgs s_Kind_stop_at) (defBody s_Kind_stop_at) (defScope s_Kind_stop_at) .none kV_Kind_stop_at dc_Kind_stop_at pm_Kind_stop_at an_Kind_stop_at cd_Kind_stop_at ct_Kind_stop_at), sl_Kind_stop_at⟩)
    (c_Kind_stop_at : PySem.W.codeIn K cd_Kind_stop_at "Kind.stop_at" = true)
    (k_Kind_stop_at : PySem.W.keepIn K (.ref f_Kind_stop_at) = true)
    (ma_Plain_stop_at : PySem.W.findIn K (.ref K_Plain) "stop_at" = some (some (.ref f_Kind_stop_at)))
    (mf_Plain_stop_at : PySem.W.isFn K (.ref f_Kind_stop_at) = true)
    (ma_Pointed_stop_at : PySem.W.findIn K (.ref K_Pointed) "stop_at" = some (some (.ref f_Kind_stop_at)))
    (mf_Pointed_stop_at : PySem.W.isFn K (.ref f_Kind_stop_at) = true)
    (ma_Signed_stop_at : PySem.W.findIn K (.ref K_Signed) "stop_at" = some (some (.ref f_Kind_stop_at)))
    (mf_Signed_stop_at : PySem.W.isFn K (.ref f_Kind_stop_at) = true)
    (a_l_number : PySem.W.nsIn K mainGlobals "_law_number" = some (some (.ref f_l_number)))
    (l_l_number : K.lookup f_l_number = some ⟨oc_l_number, od_l_number, .func (PySem.W.fnOf "_law_number" "_law_number" (defArgs s_l_number) (defBody s_l_number) (defScope s_l_number) .none kV_l_number dc_l_number pm_l_number an_l_number cd_l_number ct_l_number), sl_l_number⟩)
    (c_l_number : PySem.W.codeIn K cd_l_number "_law_number" = true)
    (k_l_number : PySem.W.keepIn K (.ref f_l_number) = true)
    (a_l_whole : PySem.W.nsIn K mainGlobals "_law_whole" = some (some (.ref f_l_whole)))
    (l_l_whole : K.lookup f_l_whole = some ⟨oc_l_whole, od_l_whole, .func (PySem.W.fnOf "_law_whole" "_law_whole" (defArgs s_l_whole) (defBody s_l_whole) (defScope s_l_whole) .none kV_l_whole dc_l_whole pm_l_whole an_l_whole cd_l_whole ct_l_whole), sl_l_whole⟩)
    (c_l_whole : PySem.W.codeIn K cd_l_whole "_law_whole" = true)
    (k_l_whole : PySem.W.keepIn K (.ref f_l_whole) = true)
    (a_l_pair : PySem.W.nsIn K mainGlobals "_law_pair" = some (some (.ref f_l_pair)))
    (l_l_pair : K.lookup f_l_pair = some ⟨oc_l_pair, od_l_pair, .func (PySem.W.fnOf "_law_pair" "_law_pair" (defArgs s_l_pair) (defBody s_l_pair) (defScope s_l_pair) .none kV_l_pair dc_l_pair pm_l_pair an_l_pair cd_l_pair ct_l_pair), sl_l_pair⟩)
    (c_l_pair : PySem.W.codeIn K cd_l_pair "_law_pair" = true)
    (k_l_pair : PySem.W.keepIn K (.ref f_l_pair) = true)
    (l_Kind_go_round : K.lookup f_Kind_go_round = some ⟨oc_Kind_go_round, od_Kind_go_round, .func (PySem.W.fnOf "go_round" "Kind.go_round" (defArgs s_Kind_go_round) (defBody s_Kind_go_round) (defScope s_Kind_go_round) .none kV_Kind_go_round dc_Kind_go_round pm_Kind_go_round an_Kind_go_round cd_Kind_go_round ct_Kind_go_round), sl_Kind_go_round⟩)
    (c_Kind_go_round : PySem.W.codeIn K cd_Kind_go_round "Kind.go_round" = true)
    (k_Kind_go_round : PySem.W.keepIn K (.ref f_Kind_go_round) = true)
    (ma_Plain_go_round : PySem.W.findIn K (.ref K_Plain) "go_round" = some (some (.ref f_Kind_go_round)))
    (mf_Plain_go_round : PySem.W.isFn K (.ref f_Kind_go_round) = true)
    (ma_Pointed_go_round : PySem.W.findIn K (.ref K_Pointed) "go_round" = some (some (.ref f_Kind_go_round)))
    (mf_Pointed_go_round : PySem.W.isFn K (.ref f_Kind_go_round) = true)
    (ma_Signed_go_round : PySem.W.findIn K (.ref K_Signed) "go_round" = some (some (.ref f_Kind_go_round)))
    (mf_Signed_go_round : PySem.W.isFn K (.ref f_Kind_go_round) = true)
    (a_l_right : PySem.W.nsIn K mainGlobals "_law_right" = some (some (.ref f_l_right)))
    (l_l_right : K.lookup f_l_right = some ⟨oc_l_right, od_l_right, .func (PySem.W.fnOf "_law_right" "_law_right" (defArgs s_l_right) (defBody s_l_right) (defScope s_l_right) .none kV_l_right dc_l_right pm_l_right an_l_right cd_l_right ct_l_right), sl_l_right⟩)
    (c_l_right : PySem.W.codeIn K cd_l_right "_law_right" = true)
    (k_l_right : PySem.W.keepIn K (.ref f_l_right) = true)
    (a_law : PySem.W.nsIn K mainGlobals "law" = some (some (.ref f_law)))
    (l_law : K.lookup f_law = some ⟨oc_law, od_law, .func (PySem.W.fnOf "law" "law" (defArgs s_law) (defBody s_law) (defScope s_law) .none kV_law dc_law pm_law an_law cd_law ct_law), sl_law⟩)
    (c_law : PySem.W.codeIn K cd_law "law" = true)
    (k_law : PySem.W.keepIn K (.ref f_law) = true)
    (km_Plain : PySem.W.makesIn K K_Plain = true)
    (kin_Plain : PySem.W.findIn K (.ref K_Plain) "__init__" = some (some (.ref f_Plain___init__)))
    (kif_Plain : PySem.W.isFn K (.ref f_Plain___init__) = true)
    (kk_Plain : PySem.W.keepIn K (.ref K_Plain) = true)
    (km_Pointed : PySem.W.makesIn K K_Pointed = true)
    (kin_Pointed : PySem.W.findIn K (.ref K_Pointed) "__init__" = some (some (.ref f_Pointed___init__)))
    (kif_Pointed : PySem.W.isFn K (.ref f_Pointed___init__) = true)
    (kk_Pointed : PySem.W.keepIn K (.ref K_Pointed) = true)
    (km_Signed : PySem.W.makesIn K K_Signed = true)
    (kin_Signed : PySem.W.findIn K (.ref K_Signed) "__init__" = some (some (.ref f_Signed___init__)))
    (kif_Signed : PySem.W.isFn K (.ref f_Signed___init__) = true)
    (kk_Signed : PySem.W.keepIn K (.ref K_Signed) = true)
    (ct_Kind___init__ : PySem.W.typeIn K (.ref K_Kind) = some mcc_Kind___init__)
    (cr_Kind___init__ : PySem.W.readsIn K K_Kind mcc_Kind___init__ = true)
    (cg_Kind___init__ : PySem.W.specialIn K (.ref K_Kind) "__getattribute__" = some (some (.builtin "type.__getattribute__")))
    (cv_Kind___init__ : PySem.W.findCls K (.ref K_Kind) mcc_Kind___init__ "__init__" = some (.val (.ref f_Kind___init__)))
    (ag_LEAST_WIDTH : PySem.W.nsIn K mainGlobals "LEAST_WIDTH" = some (some (.int 4 tk_LEAST_WIDTH)))
    (ag_GREATEST_WIDTH : PySem.W.nsIn K mainGlobals "GREATEST_WIDTH" = some (some (.int 32 tk_GREATEST_WIDTH)))
    (zz_max : PySem.W.nsIn K mainGlobals "max" = some none)
    (zz_isinstance : PySem.W.nsIn K mainGlobals "isinstance" = some none)
    (zz_bool : PySem.W.nsIn K mainGlobals "bool" = some none)
    (zz_int : PySem.W.nsIn K mainGlobals "int" = some none)
    (zz_len : PySem.W.nsIn K mainGlobals "len" = some none)
    (zz_min : PySem.W.nsIn K mainGlobals "min" = some none)
    (zz_range : PySem.W.nsIn K mainGlobals "range" = some none)
    (zz_tuple : PySem.W.nsIn K mainGlobals "tuple" = some none)
    (zz_reversed : PySem.W.nsIn K mainGlobals "reversed" = some none) : Tx K mg where
  k_Kind := ⟨K_Kind, PySem.W.mg_of X G ak_Kind, ⟨kp_Kind, kh_Kind, ko_Kind, ks_Kind⟩⟩
  k_Plain := ⟨K_Plain, PySem.W.mg_of X G ak_Plain, ⟨kp_Plain, kh_Plain, ko_Plain, ks_Plain⟩⟩
  k_Pointed := ⟨K_Pointed, PySem.W.mg_of X G ak_Pointed, ⟨kp_Pointed, kh_Pointed, ko_Pointed, ks_Pointed⟩⟩
  k_Signed := ⟨K_Signed, PySem.W.mg_of X G ak_Signed, ⟨kp_Signed, kh_Signed, ko_Signed, ks_Signed⟩⟩
  ic_Plain := ⟨ica_Plain, icn_Plain, ict_Plain, icm_Plain⟩
  ic_Pointed := ⟨ica_Pointed, icn_Pointed, ict_Pointed, icm_Pointed⟩
  ic_Signed := ⟨ica_Signed, icn_Signed, ict_Signed, icm_Signed⟩
  kic_Plain_Kind := Ow.kit_sub k1_kic_Plain_Kind k2_kic_Plain_Kind k3_kic_Plain_Kind k4_kic_Plain_Kind
  kic_Pointed_Kind := Ow.kit_sub k1_kic_Pointed_Kind k2_kic_Pointed_Kind k3_kic_Pointed_Kind k4_kic_Pointed_Kind
  kic_Signed_Kind := Ow.kit_sub k1_kic_Signed_Kind k2_kic_Signed_Kind k3_kic_Signed_Kind k4_kic_Signed_Kind
  na_Plain_point := nah_Plain_point
  na_Plain_width := nah_Plain_width
  na_Pointed_point := nah_Pointed_point
  na_Pointed_width := nah_Pointed_width
  na_Signed_point := nah_Signed_point
  na_Signed_width := nah_Signed_width
  d_l_box := ⟨f_l_box, _, fun_mk (st := s_l_box) l_l_box c_l_box k_l_box, (fun_mk (st := s_l_box) l_l_box c_l_box k_l_box).binds fun _ _ _ _ _ _ us hl => match us, hl with | [_], _ => rfl, PySem.W.mg_of X G a_l_box⟩
  d_l_take := ⟨f_l_take, _, fun_mk (st := s_l_take) l_l_take c_l_take k_l_take, (fun_mk (st := s_l_take) l_l_take c_l_take k_l_take).binds fun _ _ _ _ _ _ us hl => match us, hl with | [_, _], _ => rfl, PySem.W.mg_of X G a_l_take⟩
  d_l_spec := ⟨f_l_spec, _, fun_mk (st := s_l_spec) l_l_spec c_l_spec k_l_spec, (fun_mk (st := s_l_spec) l_l_spec c_l_spec k_l_spec).binds fun _ _ _ _ _ _ us hl => match us, hl with | [_], _ => rfl, PySem.W.mg_of X G a_l_spec⟩
  d_is_whole := ⟨f_is_whole, _, fun_mk (st := s_is_whole) l_is_whole c_is_whole k_is_whole, (fun_mk (st := s_is_whole) l_is_whole c_is_whole k_is_whole).binds fun _ _ _ _ _ _ us hl => match us, hl with | [_], _ => rfl, PySem.W.mg_of X G a_is_whole⟩
  d_need_width := ⟨f_need_width, _, fun_mk (st := s_need_width) l_need_width c_need_width k_need_width, (fun_mk (st := s_need_width) l_need_width c_need_width k_need_width).binds fun _ _ _ _ _ _ us hl => match us, hl with | [_], _ => rfl, PySem.W.mg_of X G a_need_width⟩
  d_Kind___init__ := ⟨f_Kind___init__, _, fun_mk (st := s_Kind___init__) l_Kind___init__ c_Kind___init__ k_Kind___init__, (fun_mk (st := s_Kind___init__) l_Kind___init__ c_Kind___init__ k_Kind___init__).binds fun _ _ _ _ _ _ us hl => match us, hl with | [_, _, _], _ => rfl⟩
  d_Pointed___init__ := ⟨f_Pointed___init__, _, fun_mk (st := s_Pointed___init__) l_Pointed___init__ c_Pointed___init__ k_Pointed___init__, (fun_mk (st := s_Pointed___init__) l_Pointed___init__ c_Pointed___init__ k_Pointed___init__).binds fun _ _ _ _ _ _ us hl => match us, hl with | [_, _, _], _ => rfl⟩
  d_Plain___init__ := ⟨f_Plain___init__, _, fun_mk (st := s_Plain___init__) l_Plain___init__ c_Plain___init__ k_Plain___init__, (fun_mk (st := s_Plain___init__) l_Plain___init__ c_Plain___init__ k_Plain___init__).binds fun _ _ _ _ _ _ us hl => match us, hl with | [_, _], _ => rfl⟩
  d_Signed___init__ := ⟨f_Signed___init__, _, fun_mk (st := s_Signed___init__) l_Signed___init__ c_Signed___init__ k_Signed___init__, (fun_mk (st := s_Signed___init__) l_Signed___init__ c_Signed___init__ k_Signed___init__).binds fun _ _ _ _ _ _ us hl => match us, hl with | [_, _], _ => rfl⟩
  d_l_kind := ⟨f_l_kind, _, fun_mk (st := s_l_kind) l_l_kind c_l_kind k_l_kind, (fun_mk (st := s_l_kind) l_l_kind c_l_kind k_l_kind).binds fun _ _ _ _ _ _ us hl => match us, hl with | [_], _ => rfl, PySem.W.mg_of X G a_l_kind⟩
  d_l_ends := ⟨f_l_ends, _, fun_mk (st := s_l_ends) l_l_ends c_l_ends k_l_ends, (fun_mk (st := s_l_ends) l_l_ends c_l_ends k_l_ends).binds fun _ _ _ _ _ _ us hl => match us, hl with | [_], _ => rfl, PySem.W.mg_of X G a_l_ends⟩
  d_l_cell := ⟨f_l_cell, _, fun_mk (st := s_l_cell) l_l_cell c_l_cell k_l_cell, (fun_mk (st := s_l_cell) l_l_cell c_l_cell k_l_cell).binds fun _ _ _ _ _ _ us hl => match us, hl with | [_, _], _ => rfl, PySem.W.mg_of X G a_l_cell⟩
  d_Plain_least := ⟨f_Plain_least, _, fun_mk (st := s_Plain_least) l_Plain_least c_Plain_least k_Plain_least, (fun_mk (st := s_Plain_least) l_Plain_least c_Plain_least k_Plain_least).binds fun _ _ _ _ _ _ us hl => match us, hl with | [_], _ => rfl⟩
  mt_Plain_least := ⟨ma_Plain_least, mf_Plain_least, k_Plain_least⟩
  d_Kind_least := ⟨f_Kind_least, _, fun_mk (st := s_Kind_least) l_Kind_least c_Kind_least k_Kind_least, (fun_mk (st := s_Kind_least) l_Kind_least c_Kind_least k_Kind_least).binds fun _ _ _ _ _ _ us hl => match us, hl with | [_], _ => rfl⟩
  mt_Pointed_least := ⟨ma_Pointed_least, mf_Pointed_least, k_Kind_least⟩
  mt_Signed_least := ⟨ma_Signed_least, mf_Signed_least, k_Kind_least⟩
  d_Plain_greatest := ⟨f_Plain_greatest, _, fun_mk (st := s_Plain_greatest) l_Plain_greatest c_Plain_greatest k_Plain_greatest, (fun_mk (st := s_Plain_greatest) l_Plain_greatest c_Plain_greatest k_Plain_greatest).binds fun _ _ _ _ _ _ us hl => match us, hl with | [_], _ => rfl⟩
  mt_Plain_greatest := ⟨ma_Plain_greatest, mf_Plain_greatest, k_Plain_greatest⟩
  d_Kind_greatest := ⟨f_Kind_greatest, _, fun_mk (st := s_Kind_greatest) l_Kind_greatest c_Kind_greatest k_Kind_greatest, (fun_mk (st := s_Kind_greatest) l_Kind_greatest c_Kind_greatest k_Kind_greatest).binds fun _ _ _ _ _ _ us hl => match us, hl with | [_], _ => rfl⟩
  mt_Pointed_greatest := ⟨ma_Pointed_greatest, mf_Pointed_greatest, k_Kind_greatest⟩
  mt_Signed_greatest := ⟨ma_Signed_greatest, mf_Signed_greatest, k_Kind_greatest⟩
  d_Kind_is_count := ⟨f_Kind_is_count, _, fun_mk (st := s_Kind_is_count) l_Kind_is_count c_Kind_is_count k_Kind_is_count, (fun_mk (st := s_Kind_is_count) l_Kind_is_count c_Kind_is_count k_Kind_is_count).binds fun _ _ _ _ _ _ us hl => match us, hl with | [_, _], _ => rfl⟩
  mt_Plain_is_count := ⟨ma_Plain_is_count, mf_Plain_is_count, k_Kind_is_count⟩
  mt_Pointed_is_count := ⟨ma_Pointed_is_count, mf_Pointed_is_count, k_Kind_is_count⟩
  mt_Signed_is_count := ⟨ma_Signed_is_count, mf_Signed_is_count, k_Kind_is_count⟩
  d_Kind_bits_of := ⟨f_Kind_bits_of, _, fun_mk (st := s_Kind_bits_of) l_Kind_bits_of c_Kind_bits_of k_Kind_bits_of, (fun_mk (st := s_Kind_bits_of) l_Kind_bits_of c_Kind_bits_of k_Kind_bits_of).binds fun _ _ _ _ _ _ us hl => match us, hl with | [_, _], _ => rfl⟩
  mt_Plain_bits_of := ⟨ma_Plain_bits_of, mf_Plain_bits_of, k_Kind_bits_of⟩
  mt_Pointed_bits_of := ⟨ma_Pointed_bits_of, mf_Pointed_bits_of, k_Kind_bits_of⟩
  mt_Signed_bits_of := ⟨ma_Signed_bits_of, mf_Signed_bits_of, k_Kind_bits_of⟩
  d_Kind_stop_at := ⟨f_Kind_stop_at, _, fun_mk (st := s_Kind_stop_at) l_Kind_stop_at c_Kind_stop_at k_Kind_stop_at, (fun_mk (st := s_Kind_stop_at) l_Kind_stop_at c_Kind_stop_at k_Kind_stop_at).binds fun _ _ _ _ _ _ us hl => match us, hl with | [_, _], _ => rfl⟩
  mt_Plain_stop_at := ⟨ma_Plain_stop_at, mf_Plain_stop_at, k_Kind_stop_at⟩
  mt_Pointed_stop_at := ⟨ma_Pointed_stop_at, mf_Pointed_stop_at, k_Kind_stop_at⟩
  mt_Signed_stop_at := ⟨ma_Signed_stop_at, mf_Signed_stop_at, k_Kind_stop_at⟩
  d_l_number := ⟨f_l_number, _, fun_mk (st := s_l_number) l_l_number c_l_number k_l_number, (fun_mk (st := s_l_number) l_l_number c_l_number k_l_number).binds fun _ _ _ _ _ _ us hl => match us, hl with | [_, _], _ => rfl, PySem.W.mg_of X G a_l_number⟩
  d_l_whole := ⟨f_l_whole, _, fun_mk (st := s_l_whole) l_l_whole c_l_whole k_l_whole, (fun_mk (st := s_l_whole) l_l_whole c_l_whole k_l_whole).binds fun _ _ _ _ _ _ us hl => match us, hl with | [_], _ => rfl, PySem.W.mg_of X G a_l_whole⟩
  d_l_pair := ⟨f_l_pair, _, fun_mk (st := s_l_pair) l_l_pair c_l_pair k_l_pair, (fun_mk (st := s_l_pair) l_l_pair c_l_pair k_l_pair).binds fun _ _ _ _ _ _ us hl => match us, hl with | [_, _, _], _ => rfl, PySem.W.mg_of X G a_l_pair⟩
  d_Kind_go_round := ⟨f_Kind_go_round, _, fun_mk (st := s_Kind_go_round) l_Kind_go_round c_Kind_go_round k_Kind_go_round, (fun_mk (st := s_Kind_go_round) l_Kind_go_round c_Kind_go_round k_Kind_go_round).binds fun _ _ _ _ _ _ us hl => match us, hl with | [_, _], _ => rfl⟩
  mt_Plain_go_round := ⟨ma_Plain_go_round, mf_Plain_go_round, k_Kind_go_round⟩
  mt_Pointed_go_round := ⟨ma_Pointed_go_round, mf_Pointed_go_round, k_Kind_go_round⟩
  mt_Signed_go_round := ⟨ma_Signed_go_round, mf_Signed_go_round, k_Kind_go_round⟩
  d_l_right := ⟨f_l_right, _, fun_mk (st := s_l_right) l_l_right c_l_right k_l_right, (fun_mk (st := s_l_right) l_l_right c_l_right k_l_right).binds fun _ _ _ _ _ _ us hl => match us, hl with | [_, _, _], _ => rfl, PySem.W.mg_of X G a_l_right⟩
  d_law := ⟨f_law, _, fun_mk (st := s_law) l_law c_law k_law, (fun_mk (st := s_law) l_law c_law k_law).binds fun _ _ _ _ _ _ us hl => match us, hl with | [_], _ => rfl, PySem.W.mg_of X G a_law⟩
  mk_Plain := ⟨km_Plain, kin_Plain, kif_Plain, kk_Plain⟩
  mk_Pointed := ⟨km_Pointed, kin_Pointed, kif_Pointed, kk_Pointed⟩
  mk_Signed := ⟨km_Signed, kin_Signed, kif_Signed, kk_Signed⟩
  cc_Kind___init__ := ⟨mcc_Kind___init__, ⟨cr_Kind___init__, cg_Kind___init__⟩, cv_Kind___init__⟩
  g_LEAST_WIDTH := ⟨_, PySem.W.mg_of X G ag_LEAST_WIDTH⟩
  g_GREATEST_WIDTH := ⟨_, PySem.W.mg_of X G ag_GREATEST_WIDTH⟩
  z_max := PySem.W.mg_none_of X G zz_max
  z_isinstance := PySem.W.mg_none_of X G zz_isinstance
  z_bool := PySem.W.mg_none_of X G zz_bool
  z_int := PySem.W.mg_none_of X G zz_int
  z_len := PySem.W.mg_none_of X G zz_len
  z_min := PySem.W.mg_none_of X G zz_min
  z_range := PySem.W.mg_none_of X G zz_range
  z_tuple := PySem.W.mg_none_of X G zz_tuple
  z_reversed := PySem.W.mg_none_of X G zz_reversed
theorem all_mk {l : PySem.W.OpenLaw} {w : World} {K : PySem.W.Frag} {h : Heap} {mg : Str → Option Value} {fa : Addr} (hfa : mg "law" = some (.ref fa)) (T : Tx K mg) :
    ∃ fd : FuncData, (∀ (s : Shared) (v : Value), BindsTo s fd ⟨[v], []⟩ [("_law_script", v)]) ∧ ∀ base : Heap, K.In base → base.Ns mainGlobals mg → FnOk l.prog w K mg base CX0 8 fa fd ["_law_script"] (sp_law K) := by
  have e := hfa.symm.trans T.d_law.m
  cases e
  refine ⟨T.d_law.fd, fun s v => ?_, fun base _ _ => ok_law T⟩
  obtain ⟨oc, od, kV, doc, pm, an, cdv, ct, osl, e, _, _⟩ := T.d_law.F.ex
  rw [e]
  exact .of_eq rfl
theorem walk {l : PySem.W.OpenLaw} {q : Program} {loose : List Str} {XP : (Str → Option Value) → Heap → Prop} {YP : World → Heap → Prop} {d : DefRec} {K : Params → PySem.W.Frag} (hn : l.most = some 63) (hdf : d.params.defaults = [])
    (hY : ∀ (w : World) (h : Heap), YP w h → (K w.params).In h)
    (F : ∀ (w : World) (mg : Str → Option Value) (fa : Addr) (h : Heap), (K w.params).In h → h.Ns mainGlobals mg → mg d.name = some (.ref fa) →
      ∃ fd : FuncData, (∀ (s : Shared) (u : Value), BindsTo s fd ⟨[u], []⟩ [("_law_script", u)]) ∧ ∀ base : Heap, (K w.params).In base → base.Ns mainGlobals mg → FnOk l.prog w (K w.params) mg base CX0 8 fa fd ["_law_script"] (sp_law (K w.params))) :
    PySem.W.WalkO q loose XP YP l.row.toRowW d [] (fun f vs => PySem.call f vs) :=
  L2.walk_of (n := 63) (k := 8) (x := "_law_script") (CX := fun _ => CX0) (sp := fun w => sp_law (K w.params)) hn (by decide) hdf ⟨rfl, by decide, by decide⟩ hY F (fun _ _ a ns hl _ hS => ⟨a, ns, rfl, hS, hl, fun _ _ => rfl⟩) fun _ _ _ _ _ z => z
end Ow
open PySem PySem.W PyProof.Rows
set_option maxRecDepth 100000 in
set_option maxHeartbeats 0 in
set_option pp.deepTerms.threshold 3 in
set_option pp.maxSteps 150 in
theorem PySem.Challenge.cw_overwise_k02_round_and_stopped_holds : PySem.Challenge.rw_overwise_k02_round_and_stopped.Holds := by
  w_on; o_law; k_head; (case hw => w_witness2)
  k_fill
  refine _root_.Ow.walk (l := PySem.Challenge.rw_overwise_k02_round_and_stopped) rfl rfl (fun w h Y => PySem.W.kIn_of Y) ?F
  case F =>
    intro w mg fa h KX G hmg
    refine' _root_.Ow.all_mk (h := h) hmg (_root_.Ow.tx_mk KX G ?ak_Kind ?kp_Kind ?kh_Kind ?ko_Kind ?ks_Kind ?ak_Plain ?kp_Plain ?kh_Plain ?ko_Plain ?ks_Plain ?ak_Pointed ?kp_Pointed ?kh_Pointed ?ko_Pointed ?ks_Pointed ?ak_Signed ?kp_Signed ?kh_Signed ?ko_Signed ?ks_Signed ?ica_Plain ?icn_Plain ?ict_Plain ?icm_Plain ?ica_Pointed ?icn_Pointed ?ict_Pointed ?icm_Pointed ?ica_Signed ?icn_Signed ?ict_Signed ?icm_Signed ?k1_kic_Plain_Kind ?k2_kic_Plain_Kind ?k3_kic_Plain_Kind ?k4_kic_Plain_Kind ?k1_kic_Pointed_Kind ?k2_kic_Pointed_Kind ?k3_kic_Pointed_Kind ?k4_kic_Pointed_Kind ?k1_kic_Signed_Kind ?k2_kic_Signed_Kind ?k3_kic_Signed_Kind ?k4_kic_Signed_Kind ?nah_Plain_point ?nah_Plain_width ?nah_Pointed_point ?nah_Pointed_width ?nah_Signed_point ?nah_Signed_width ?a_l_box ?l_l_box ?c_l_box ?k_l_box ?a_l_take ?l_l_take ?c_l_take ?k_l_take ?a_l_spec ?l_l_spec ?c_l_spec ?k_l_spec ?a_is_whole ?l_is_whole ?c_is_whole ?k_is_whole ?a_need_width ?l_need_width ?c_need_width ?k_need_width ?l_Kind___init__ ?c_Kind___init__ ?k_Kind___init__ ?l_Pointed___init__ ?c_Pointed___init__ ?k_Pointed___init__ ?l_Plain___init__ ?c_Plain___init__ ?k_Plain___init__ ?l_Signed___init__ ?c_Signed___init__ ?k_Signed___init__ ?a_l_kind ?l_l_kind ?c_l_kind ?k_l_kind ?a_l_ends ?l_l_ends ?c_l_ends ?k_l_ends ?a_l_cell ?l_l_cell ?c_l_cell ?k_l_cell ?l_Plain_least ?c_Plain_least ?k_Plain_least ?ma_Plain_least ?mf_Plain_least ?l_Kind_least ?c_Kind_least ?k_Kind_least ?ma_Pointed_least ?mf_Pointed_least ?ma_Signed_least ?mf_Signed_least ?l_Plain_greatest ?c_Plain_greatest ?k_Plain_greatest ?ma_Plain_greatest ?mf_Plain_greatest ?l_Kind_greatest ?c_Kind_greatest ?k_Kind_greatest ?ma_Pointed_greatest ?mf_Pointed_greatest ?ma_Signed_greatest ?mf_Signed_greatest ?l_Kind_is_count ?c_Kind_is_count ?k_Kind_is_count ?ma_Plain_is_count ?mf_Plain_is_count ?ma_Pointed_is_count ?mf_Pointed_is_count ?ma_Signed_is_count ?mf_Signed_is_count ?l_Kind_bits_of ?c_Kind_bits_of ?k_Kind_bits_of ?ma_Plain_bits_of ?mf_Plain_bits_of ?ma_Pointed_bits_of ?mf_Pointed_bits_of ?ma_Signed_bits_of ?mf_Signed_bits_of ?l_Kind_stop_at ?c_Kind_stop_at ?k_Kind_stop_at ?ma_Plain_stop_at ?mf_Plain_stop_at ?ma_Pointed_stop_at ?mf_Pointed_stop_at ?ma_Signed_stop_at ?mf_Signed_stop_at ?a_l_number ?l_l_number ?c_l_number ?k_l_number ?a_l_whole ?l_l_whole ?c_l_whole ?k_l_whole ?a_l_pair ?l_l_pair ?c_l_pair ?k_l_pair ?l_Kind_go_round ?c_Kind_go_round ?k_Kind_go_round ?ma_Plain_go_round ?mf_Plain_go_round ?ma_Pointed_go_round ?mf_Pointed_go_round ?ma_Signed_go_round ?mf_Signed_go_round ?a_l_right ?l_l_right ?c_l_right ?k_l_right ?a_law ?l_law ?c_law ?k_law ?km_Plain ?kin_Plain ?kif_Plain ?kk_Plain ?km_Pointed ?kin_Pointed ?kif_Pointed ?kk_Pointed ?km_Signed ?kin_Signed ?kif_Signed ?kk_Signed ?ct_Kind___init__ ?cr_Kind___init__ ?cg_Kind___init__ ?cv_Kind___init__ ?ag_LEAST_WIDTH ?ag_GREATEST_WIDTH ?zz_max ?zz_isinstance ?zz_bool ?zz_int ?zz_len ?zz_min ?zz_range ?zz_tuple ?zz_reversed)
    (case ak_Kind => k_is)
    (case kp_Kind => k_is)
    (case ak_Plain => k_is)
    (case kp_Plain => k_is)
    (case ak_Pointed => k_is)
    (case kp_Pointed => k_is)
    (case ak_Signed => k_is)
    (case kp_Signed => k_is)
    (case ma_Plain_least => k_is)
    (case ma_Pointed_least => k_is)
    (case ma_Signed_least => k_is)
    (case ma_Plain_greatest => k_is)
    (case ma_Pointed_greatest => k_is)
    (case ma_Signed_greatest => k_is)
    (case ma_Plain_is_count => k_is)
    (case ma_Pointed_is_count => k_is)
    (case ma_Signed_is_count => k_is)
    (case ma_Plain_bits_of => k_is)
    (case ma_Pointed_bits_of => k_is)
    (case ma_Signed_bits_of => k_is)
    (case ma_Plain_stop_at => k_is)
    (case ma_Pointed_stop_at => k_is)
    (case ma_Signed_stop_at => k_is)
    (case ma_Plain_go_round => k_is)
    (case ma_Pointed_go_round => k_is)
    (case ma_Signed_go_round => k_is)
    (case kin_Plain => k_is)
    (case kin_Pointed => k_is)
    (case kin_Signed => k_is)
    (case ct_Kind___init__ => k_is)
    (case cv_Kind___init__ => k_is)
    (case kh_Kind => k_is)
    (case ko_Kind => k_is)
    (case ks_Kind => k_is)
    (case kh_Plain => k_is)
    (case ko_Plain => k_is)
    (case ks_Plain => k_is)
    (case kh_Pointed => k_is)
    (case ko_Pointed => k_is)
    (case ks_Pointed => k_is)
    (case kh_Signed => k_is)
    (case ko_Signed => k_is)
    (case ks_Signed => k_is)
    (case ica_Plain => k_is)
    (case icn_Plain => k_is)
    (case ict_Plain => k_is)
    (case icm_Plain => k_is)
    (case ica_Pointed => k_is)
    (case icn_Pointed => k_is)
    (case ict_Pointed => k_is)
    (case icm_Pointed => k_is)
    (case ica_Signed => k_is)
    (case icn_Signed => k_is)
    (case ict_Signed => k_is)
    (case icm_Signed => k_is)
    (case k1_kic_Plain_Kind => first | rfl | decide)
    (case k2_kic_Plain_Kind => k_is)
    (case k3_kic_Plain_Kind => k_is)
    (case k4_kic_Plain_Kind => k_is)
    (case k1_kic_Pointed_Kind => first | rfl | decide)
    (case k2_kic_Pointed_Kind => k_is)
    (case k3_kic_Pointed_Kind => k_is)
    (case k4_kic_Pointed_Kind => k_is)
    (case k1_kic_Signed_Kind => first | rfl | decide)
    (case k2_kic_Signed_Kind => k_is)
    (case k3_kic_Signed_Kind => k_is)
    (case k4_kic_Signed_Kind => k_is)
    (case nah_Plain_point => k_is)
    (case nah_Plain_width => k_is)
    (case nah_Pointed_point => k_is)
    (case nah_Pointed_width => k_is)
    (case nah_Signed_point => k_is)
    (case nah_Signed_width => k_is)
    (case a_l_box => k_is)
    (case l_l_box => k_is)
    (case c_l_box => k_is)
    (case k_l_box => k_is)
    (case a_l_take => k_is)
    (case l_l_take => k_is)
    (case c_l_take => k_is)
    (case k_l_take => k_is)
    (case a_l_spec => k_is)
    (case l_l_spec => k_is)
    (case c_l_spec => k_is)
    (case k_l_spec => k_is)
    (case a_is_whole => k_is)
    (case l_is_whole => k_is)
    (case c_is_whole => k_is)
    (case k_is_whole => k_is)
    (case a_need_width => k_is)
    (case l_need_width => k_is)
    (case c_need_width => k_is)
    (case k_need_width => k_is)
    (case l_Kind___init__ => k_is)
    (case c_Kind___init__ => k_is)
    (case k_Kind___init__ => k_is)
    (case l_Pointed___init__ => k_is)
    (case c_Pointed___init__ => k_is)
    (case k_Pointed___init__ => k_is)
    (case l_Plain___init__ => k_is)
    (case c_Plain___init__ => k_is)
    (case k_Plain___init__ => k_is)
    (case l_Signed___init__ => k_is)
    (case c_Signed___init__ => k_is)
    (case k_Signed___init__ => k_is)
    (case a_l_kind => k_is)
    (case l_l_kind => k_is)
    (case c_l_kind => k_is)
    (case k_l_kind => k_is)
    (case a_l_ends => k_is)
    (case l_l_ends => k_is)
    (case c_l_ends => k_is)
    (case k_l_ends => k_is)
    (case a_l_cell => k_is)
    (case l_l_cell => k_is)
    (case c_l_cell => k_is)
    (case k_l_cell => k_is)
    (case l_Plain_least => k_is)
    (case c_Plain_least => k_is)
    (case k_Plain_least => k_is)
    (case mf_Plain_least => k_is)
    (case l_Kind_least => k_is)
    (case c_Kind_least => k_is)
    (case k_Kind_least => k_is)
    (case mf_Pointed_least => k_is)
    (case mf_Signed_least => k_is)
    (case l_Plain_greatest => k_is)
    (case c_Plain_greatest => k_is)
    (case k_Plain_greatest => k_is)
    (case mf_Plain_greatest => k_is)
    (case l_Kind_greatest => k_is)
    (case c_Kind_greatest => k_is)
    (case k_Kind_greatest => k_is)
    (case mf_Pointed_greatest => k_is)
    (case mf_Signed_greatest => k_is)
    (case l_Kind_is_count => k_is)
    (case c_Kind_is_count => k_is)
    (case k_Kind_is_count => k_is)
    (case mf_Plain_is_count => k_is)
    (case mf_Pointed_is_count => k_is)
    (case mf_Signed_is_count => k_is)
    (case l_Kind_bits_of => k_is)
    (case c_Kind_bits_of => k_is)
    (case k_Kind_bits_of => k_is)
    (case mf_Plain_bits_of => k_is)
    (case mf_Pointed_bits_of => k_is)
    (case mf_Signed_bits_of => k_is)
    (case l_Kind_stop_at => k_is)
    (case c_Kind_stop_at => k_is)
    (case k_Kind_stop_at => k_is)
    (case mf_Plain_stop_at => k_is)
    (case mf_Pointed_stop_at => k_is)
    (case mf_Signed_stop_at => k_is)
    (case a_l_number => k_is)
    (case l_l_number => k_is)
    (case c_l_number => k_is)
    (case k_l_number => k_is)
    (case a_l_whole => k_is)
    (case l_l_whole => k_is)
    (case c_l_whole => k_is)
    (case k_l_whole => k_is)
    (case a_l_pair => k_is)
    (case l_l_pair => k_is)
    (case c_l_pair => k_is)
    (case k_l_pair => k_is)
    (case l_Kind_go_round => k_is)
    (case c_Kind_go_round => k_is)
    (case k_Kind_go_round => k_is)
    (case mf_Plain_go_round => k_is)
    (case mf_Pointed_go_round => k_is)
    (case mf_Signed_go_round => k_is)
    (case a_l_right => k_is)
    (case l_l_right => k_is)
    (case c_l_right => k_is)
    (case k_l_right => k_is)
    (case a_law => k_is)
    (case l_law => k_is)
    (case c_law => k_is)
    (case k_law => k_is)
    (case km_Plain => k_is)
    (case kif_Plain => k_is)
    (case kk_Plain => k_is)
    (case km_Pointed => k_is)
    (case kif_Pointed => k_is)
    (case kk_Pointed => k_is)
    (case km_Signed => k_is)
    (case kif_Signed => k_is)
    (case kk_Signed => k_is)
    (case cr_Kind___init__ => k_is)
    (case cg_Kind___init__ => k_is)
    (case ag_LEAST_WIDTH => k_is)
    (case ag_GREATEST_WIDTH => k_is)
    (case zz_max => k_is)
    (case zz_isinstance => k_is)
    (case zz_bool => k_is)
    (case zz_int => k_is)
    (case zz_len => k_is)
    (case zz_min => k_is)
    (case zz_range => k_is)
    (case zz_tuple => k_is)
    (case zz_reversed => k_is)
