import PyProof.Rows.All
import Wide.All
import OpenK.AllK
import Wide.FinOn
import HandS.ForMost
import HandS.Wide
import HandS.WideBits
import HandS.IsInst
import HandS.Style
import HandS.ForExc
import HandS.New0
import HandS.ExcInit
import HandS.ExcIs
import HandS.ClsMeth
import HandS.NoneIn
import HandS.Conv
import PySem.Challenge.RW_overwise_k19_whole_sums_and_roundings
set_option Elab.async false
set_option linter.all false
set_option maxRecDepth 100000
set_option maxHeartbeats 4000000
/-! ### own rules and steps -/
namespace Ow
open PySem L2
section
variable {Q : VK} {H H' : Hp} {A B : Prop}
theorem gi {e : Int} (h : ∀ x, x = e → Q (.int x) H) : Q (.int e) H := h e rfl
theorem gl {e n : Int} (h : e = n) (q : Q (.int n) H) : Q (.int e) H := h ▸ q
theorem gs {e n : Str} (h : e = n) (q : Q (.str n) H) : Q (.str e) H := h ▸ q
theorem cc {v : V} {σ : L2.St} (h : Q v H) : tC v σ H Q := h
theorem p2 (k : Nat) : (0 : Int) < 2 ^ k := Int.pow_pos (by decide)
theorem gpow {k : Nat} (h : ∀ x, x = (2 : Int) ^ k → 0 < x → Q (.int x) H) : Q (.int (1 * 2 ^ k)) H := by
  rw [Int.one_mul]; exact h _ rfl (p2 k)
theorem gmod {i j : Int} (hj : 0 < j) (h : ∀ x, x = i % j → 0 ≤ x → x < j → Q (.int x) H) : Q (.int (i % j)) H :=
  h _ rfl (Int.emod_nonneg _ (by omega)) (Int.emod_lt_of_pos _ hj)
theorem gmax {i j : Int} (h : ∀ x, (i ≤ x ∧ j ≤ x ∧ (x = i ∨ x = j)) → Q (.int x) H) : Q (.int (if j > i then j else i)) H := by
  apply h; split <;> omega
theorem gmin {i j : Int} (h : ∀ x, (x ≤ i ∧ x ≤ j ∧ (x = i ∨ x = j)) → Q (.int x) H) : Q (.int (if j < i then j else i)) H := by
  apply h; split <;> omega
theorem max_ite {x i j : Int} (h : x = if j > i then j else i) : i ≤ x ∧ j ≤ x ∧ (x = i ∨ x = j) := by split at h <;> omega
theorem min_ite {x i j : Int} (h : x = if j < i then j else i) : x ≤ i ∧ x ≤ j ∧ (x = i ∨ x = j) := by split at h <;> omega
theorem abs_ite {x i : Int} (h : x = if i < 0 then -i else i) : (0 ≤ i ∧ x = i) ∨ (i < 0 ∧ x = -i) := by split at h <;> omega
theorem eqi {a b : Int} (h : a = b) (q : Q (.int b) H) : Q (.int a) H := h ▸ q
theorem eqb {a b : Bool} (h : a = b) (q : Q (.bl b) H) : Q (.bl a) H := h ▸ q
theorem eqd {P : Prop} [Decidable P] (h : P) (q : Q (.bl true) H) : Q (.bl (decide P)) H := by rw [decide_eq_true h]; exact q
theorem eqnd {P : Prop} [Decidable P] (h : ¬ P) (q : Q (.bl true) H) : Q (.bl (!decide P)) H := by rw [decide_eq_false h]; exact q
theorem eqeqi {i j : Int} (h : i = j) (q : Q (.bl true) H) : Q (.bl (decide (V.int i = V.int j))) H := by rw [decide_eq_true (by rw [h])]; exact q
theorem eqnei {i j : Int} (h : i ≠ j) (q : Q (.bl true) H) : Q (.bl (!decide (V.int i = V.int j))) H := by
  rw [decide_eq_false (fun z => h (V.int.inj z))]; exact q
theorem ginteq {i j : Int} (h : ∀ n : Int, ((n = 1 ∧ i = j) ∨ (n = 0 ∧ i ≠ j)) → Q (.int n) H) : Q (.int (if decide (V.int i = V.int j) = true then 1 else 0)) H := by
  by_cases e : i = j
  · rw [if_pos (decide_eq_true (by rw [e]))]; exact h _ (.inl ⟨rfl, e⟩)
  · rw [if_neg (fun z => e (V.int.inj (of_decide_eq_true z)))]; exact h _ (.inr ⟨rfl, e⟩)
theorem gintd {P : Prop} [Decidable P] (h : ∀ n : Int, ((n = 1 ∧ P) ∨ (n = 0 ∧ ¬ P)) → Q (.int n) H) : Q (.int (if decide P = true then 1 else 0)) H := by
  by_cases e : P
  · rw [if_pos (decide_eq_true e)]; exact h _ (.inl ⟨rfl, e⟩)
  · rw [if_neg (fun z => e (of_decide_eq_true z))]; exact h _ (.inr ⟨rfl, e⟩)
theorem ifb {b : Bool} (h1 : b = true → A) (h2 : b = false → B) : if b = true then A else B := by
  cases b
  · exact iteF (h2 rfl)
  · exact iteT (h1 rfl)
/-- None or an int -/
def _root_.L2.V.ov : Option Int → V
  | none => .non
  | some r => .int r
theorem ov_inj : ∀ {a b : Option Int}, V.ov a = V.ov b → a = b
  | none, none, _ => rfl
  | none, some r, h => V.noConfusion h
  | some r, none, h => V.noConfusion h
  | some r, some s, h => by rw [V.int.inj h]
theorem scal_ov : ∀ {a b : Option Int}, scal (V.ov a) (V.ov b) = true
  | none, none => rfl
  | none, some r => rfl
  | some r, none => rfl
  | some r, some s => rfl
theorem ifeqo {a b : Option Int} (h1 : a = b → A) (h2 : a ≠ b → B) : if decide (V.ov a = V.ov b) = true then A else B := by
  by_cases e : a = b
  · rw [if_pos (decide_eq_true (by rw [e]))]; exact h1 e
  · rw [if_neg (fun z => e (ov_inj (of_decide_eq_true z)))]; exact h2 e
theorem ifneo {a b : Option Int} (h1 : a ≠ b → A) (h2 : a = b → B) : if (!decide (V.ov a = V.ov b)) = true then A else B := by
  by_cases e : a = b
  · rw [decide_eq_true (show V.ov a = V.ov b by rw [e])]; exact iteF (h2 e)
  · rw [decide_eq_false (fun z => e (ov_inj z))]; exact iteT (h1 e)
theorem eqeqo {a b : Option Int} (h : a = b) (q : Q (.bl true) H) : Q (.bl (decide (V.ov a = V.ov b))) H := by rw [decide_eq_true (by rw [h])]; exact q
theorem ifnb {b : Bool} (h1 : b = false → A) (h2 : b = true → B) : if (!b) = true then A else B := by
  cases b
  · exact iteT (h1 rfl)
  · exact iteF (h2 rfl)
theorem ifd {P : Prop} [Decidable P] (h1 : P → A) (h2 : ¬ P → B) : if decide P = true then A else B := by
  by_cases e : P
  · rw [if_pos (decide_eq_true e)]; exact h1 e
  · rw [if_neg (fun z => e (of_decide_eq_true z))]; exact h2 e
theorem ifnd {P : Prop} [Decidable P] (h1 : ¬ P → A) (h2 : P → B) : if (!decide P) = true then A else B := by
  by_cases e : P
  · rw [decide_eq_true e]; exact iteF (h2 e)
  · rw [decide_eq_false e]; exact iteT (h1 e)
theorem ifeqi {i j : Int} (h1 : i = j → A) (h2 : i ≠ j → B) : if decide (V.int i = V.int j) = true then A else B :=
  ifd (fun e => h1 (V.int.inj e)) (fun e => h2 (fun z => e (by rw [z])))
theorem ifnei {i j : Int} (h1 : i ≠ j → A) (h2 : i = j → B) : if (!decide (V.int i = V.int j)) = true then A else B :=
  ifnd (fun e => h1 (fun z => e (by rw [z]))) (fun e => h2 (V.int.inj e))
theorem ifeqs {i j : Str} (h1 : i = j → A) (h2 : i ≠ j → B) : if decide (V.str i = V.str j) = true then A else B :=
  ifd (fun e => h1 (V.str.inj e)) (fun e => h2 (fun z => e (by rw [z])))
theorem ifnes {i j : Str} (h1 : i ≠ j → A) (h2 : i = j → B) : if (!decide (V.str i = V.str j)) = true then A else B :=
  ifnd (fun e => h1 (fun z => e (by rw [z]))) (fun e => h2 (V.str.inj e))
theorem ifeqb {a b : Bool} (h1 : (a = true ↔ b = true) → A) (h2 : ¬ (a = true ↔ b = true) → B) : if decide (V.bl a = V.bl b) = true then A else B :=
  ifd (fun e => h1 (by rw [V.bl.inj e])) (fun e => h2 (fun z => e (by rw [Bool.eq_iff_iff.mpr z])))
theorem ifneb {a b : Bool} (h1 : ¬ (a = true ↔ b = true) → A) (h2 : (a = true ↔ b = true) → B) : if (!decide (V.bl a = V.bl b)) = true then A else B :=
  ifnd (fun e => h1 (fun z => e (by rw [Bool.eq_iff_iff.mpr z]))) (fun e => h2 (by rw [V.bl.inj e]))
/-! heaps -/
theorem at_new {p q : Addr} {u o : HO} (hp : H p = none) (h : H q = some o) : upd H p u q = some o := by rw [upd_ne (ne_of_none h hp)]; exact h
theorem at_mut {b q : Addr} {u o : HO} (hn : q ≠ b) (h : H q = some o) : upd H b u q = some o := by rw [upd_ne hn]; exact h
theorem ne_tl {p b : Addr} {xs ys : List V} (h : H p = some (.tup xs)) (hb : H b = some (.lst ys)) : p ≠ b := fun e => by rw [e, hb] at h; cases h
theorem at_mutT {b p : Addr} {u : HO} {xs ys : List V} (hb : H b = some (.lst ys)) (h : H p = some (.tup xs)) : upd H b u p = some (.tup xs) := at_mut (ne_tl h hb) h
theorem at_mutL {b p : Addr} {u : HO} {xs ys : List V} (hb : H b = some (.tup ys)) (h : H p = some (.lst xs)) : upd H b u p = some (.lst xs) := at_mut (fun e => ne_tl hb h e.symm) h
theorem same_new {p : Addr} {u : HO} (hp : H p = none) : Same H (upd H p u) := fun _ _ h => at_new hp h
theorem same_mut {b : Addr} {u : HO} (s : Same H H') (hb : H b = none) : Same H (upd H' b u) := fun q o h => by rw [upd_ne (ne_of_none h hb)]; exact s q o h
theorem ne_sym {a b : Addr} (h : a ≠ b) : b ≠ a := fun z => h z.symm
theorem seq {K : PySem.W.Frag} {a : Addr} {xs : List V} (e : Same H H') (h : SqL K H a xs) : SqL K H' a xs := e.seq h
theorem seqT {K : PySem.W.Frag} {a : Addr} {xs : List V} (e : Same H H') (h : SqT K H a xs) : SqT K H' a xs := by
  rcases h with (h | ⟨o, h⟩) | h
  · exact .inl (.inl (e _ _ h))
  · exact .inl (.inr ⟨o, e _ _ h⟩)
  · exact .inr h
end
/-! operators -/
section
variable {X : Cx}
/-- named answers -/
theorem op_mulN : OpR X (binaryOp .Mult) (fun x y H Q => ∃ i j, x = .int i ∧ y = .int j ∧ (CMul i j ∨ CMulX i j) ∧ ∀ z, z = i * j → Q (.int z) H) := by
  intro pins s σ H x y v u Q I rx ry q
  obtain ⟨i, j, rfl, rfl, hc | hc, q⟩ := q
  · exact op_mul pins s σ H _ _ v u Q I rx ry ⟨i, j, rfl, rfl, hc, q _ rfl⟩
  · exact op_mulX pins s σ H _ _ v u Q I rx ry ⟨i, j, rfl, rfl, hc, q _ rfl⟩
theorem op_divN : OpR X (binaryOp .FloorDiv) (fun x y H Q => ∃ i j, x = .int i ∧ y = .int j ∧ CDivW i j ∧ ∀ z, z = i / j → Q (.int z) H) := by
  intro pins s σ H x y v u Q I rx ry q
  obtain ⟨i, j, rfl, rfl, hc, q⟩ := q
  exact op_fdivW pins s σ H _ _ v u Q I rx ry ⟨i, j, rfl, rfl, hc, q _ rfl⟩
theorem op_divF : OpR X (binaryOp .FloorDiv) (fun x y H Q => ∃ i j, x = .int i ∧ y = .int j ∧ (j ≠ 0 ∧ j.natAbs.log2 < 9000) ∧ ∀ z, z = i.fdiv j → Q (.int z) H) := by
  intro pins s σ H x y v u Q I rx ry q
  obtain ⟨i, j, rfl, rfl, hc, q⟩ := q
  obtain ⟨t, rfl⟩ := rx
  obtain ⟨t', rfl⟩ := ry
  exact PyProof.Rows.floordiv_int hc.1 ⟨.int (i.fdiv j), H, I.tok _, ⟨_, rfl⟩, q _ rfl⟩ (.inl (PyProof.noPylong_of_log2 hc.2))
theorem op_shlN : OpR X (binaryOp .LShift) (fun x y H Q => ∃ i j, x = .int i ∧ y = .int j ∧ (CPow i j ∨ CShl i j) ∧ ∀ z, z = i * 2 ^ j.toNat → Q (.int z) H) := by
  intro pins s σ H x y v u Q I rx ry q
  obtain ⟨i, j, rfl, rfl, hc | hc, q⟩ := q
  · exact op_shl pins s σ H _ _ v u Q I rx ry ⟨i, j, rfl, rfl, hc, q _ rfl⟩
  · exact op_shlW pins s σ H _ _ v u Q I rx ry ⟨i, j, rfl, rfl, hc, q _ rfl⟩
theorem op_shrN : OpR X (binaryOp .RShift) (fun x y H Q => ∃ i j, x = .int i ∧ y = .int j ∧ 0 ≤ j ∧ ∀ z, z = i / 2 ^ j.toNat → Q (.int z) H) := by
  intro pins s σ H x y v u Q I rx ry q
  obtain ⟨i, j, rfl, rfl, hc, q⟩ := q
  exact op_shr pins s σ H _ _ v u Q I rx ry ⟨i, j, rfl, rfl, hc, q _ rfl⟩
theorem op_modN : OpR X (binaryOp .Mod) (fun x y H Q => ∃ i j, x = .int i ∧ y = .int j ∧ 0 < j ∧ ∀ z, z = i % j → 0 ≤ z → z < j → Q (.int z) H) := by
  intro pins s σ H x y v u Q I rx ry q
  obtain ⟨i, j, rfl, rfl, hc, q⟩ := q
  exact op_mod pins s σ H _ _ v u Q I rx ry ⟨i, j, rfl, rfl, hc, q _ rfl (Int.emod_nonneg _ (by omega)) (Int.emod_lt_of_pos _ hc)⟩
theorem op_shl1 : OpR X (binaryOp .LShift) (fun x y H Q => ∃ j, x = .int 1 ∧ y = .int j ∧ (0 ≤ j ∧ j ≤ 1000000) ∧ ∀ z, z = 2 ^ j.toNat → 0 < z → Q (.int z) H) := by
  intro pins s σ H x y v u Q I rx ry q
  obtain ⟨j, rfl, rfl, ⟨h0, h1⟩, q⟩ := q
  refine op_shl pins s σ H _ _ v u Q I rx ry ⟨1, j, rfl, rfl, ⟨h0, h1, by decide⟩, ?_⟩
  show Q (.int (1 * 2 ^ j.toNat)) H
  rw [Int.one_mul]
  exact q _ rfl (p2 _)
theorem op_mask : OpR X (binaryOp .BitAnd) (fun x y H Q => ∃ (i j : Int) (k : Nat), x = .int i ∧ y = .int j ∧ j = 2 ^ k - 1 ∧ ∀ r, r = i % 2 ^ k → 0 ≤ r → r < 2 ^ k → Q (.int r) H) := by
  intro pins s σ H x y v u Q I rx ry h
  obtain ⟨i, j, k, rfl, rfl, rfl, q⟩ := h
  refine op_andM pins s σ H _ _ v u Q I rx ry ⟨i, k, rfl, rfl, q _ rfl (Int.emod_nonneg _ ?_) (Int.emod_lt_of_pos _ (p2 k))⟩
  have := p2 k; omega
theorem op_bor : OpR X (binaryOp .BitOr) (fun x y H Q => ∃ (i j : Int), x = .int i ∧ y = .int j ∧ 0 ≤ i ∧ 0 ≤ j ∧ ∀ r, r = Builtin.bitOr i j → 0 ≤ r → Q (.int r) H) := by
  intro pins s σ H x y v u Q I rx ry h
  obtain ⟨i, j, rfl, rfl, h0, h1, q⟩ := h
  refine op_or pins s σ H _ _ v u Q I rx ry ⟨i, j, rfl, rfl, q _ rfl ?_⟩
  rw [bitOr_nn h0 h1]
  exact Int.natCast_nonneg _
theorem call_dm : CallR X (.builtin "divmod") (fun xs H Q => ∃ i j, xs = [.int i, .int j] ∧ CDivP i j ∧ ∀ q r p, q = i / j → r = i % j → 0 ≤ r → r < j → H p = none → Q (.ref p) (upd H p (.tup [.int q, .int r]))) := by
  intro pins s σ H xs us Q I r h
  obtain ⟨i, j, rfl, hc, q⟩ := h
  exact call_divmodW pins s σ H _ us Q I r ⟨i, j, rfl, hc, fun p hp => q _ _ p rfl rfl (Int.emod_nonneg _ (by have := hc.1; omega)) (Int.emod_lt_of_pos _ hc.1) hp⟩
theorem call_intb : CallR X (.type "int") (fun xs H Q => ∃ k, xs = [.bl k] ∧ ∀ n : Int, ((n = 1 ∧ k = true) ∨ (n = 0 ∧ k = false)) → Q (.int n) H) := by
  intro pins s σ H xs us Q I r h
  obtain ⟨k, rfl, q⟩ := h
  refine call_int1 pins s σ H _ us Q I r (.inr ⟨k, rfl, ?_⟩)
  cases k
  · exact q _ (.inr ⟨rfl, rfl⟩)
  · exact q _ (.inl ⟨rfl, rfl⟩)
/-- an int's value by a name -/
def tNmi (t : TE) : TE := fun σ H Q => t σ H fun v H1 => ∃ i, v = .int i ∧ ∀ x, x = i → Q (.int x) H1
theorem pe_nmi {e : Expr} {t : TE} (h : PE X e t) : PE X e (tNmi t) := ⟨fun pins s σ H Q I q => thn (h.run pins s σ H _ I q) fun _ _ z => by
  obtain ⟨v, H1, I1, r1, i, rfl, q1⟩ := z
  exact ⟨.int i, H1, I1, r1, q1 i rfl⟩⟩
/-- a reckoned constant -/
def tLit (n : Int) (t : TE) : TE := fun σ H Q => t σ H fun v H1 => v = .int n ∧ Q (.int n) H1
theorem pe_lit (n : Int) {e : Expr} {t : TE} (h : PE X e t) : PE X e (tLit n t) := ⟨fun pins s σ H Q I q => thn (h.run pins s σ H _ I q) fun _ _ z => by
  obtain ⟨v, H1, I1, r1, rfl, q1⟩ := z
  exact ⟨.int n, H1, I1, r1, q1⟩⟩
end
theorem pow2_mono {a b : Nat} (h : a ≤ b) : (2 : Int) ^ a ≤ 2 ^ b := by
  have e : (2 : Int) ^ b = 2 ^ a * 2 ^ (b - a) := by rw [← Int.pow_add, show a + (b - a) = b by omega]
  rw [e]
  have h1 := p2 a
  have h2 := p2 (b - a)
  calc (2 : Int) ^ a = 2 ^ a * 1 := by omega
    _ ≤ 2 ^ a * 2 ^ (b - a) := Int.mul_le_mul_of_nonneg_left (by omega) (by omega)
theorem pow2_pred {w : Int} (h : 1 ≤ w) : (2 : Int) ^ w.toNat = 2 * 2 ^ (w - 1).toNat := by
  have e : w.toNat = (w - 1).toNat + 1 := by omega
  rw [e, Int.pow_succ, Int.mul_comm]
theorem pow2_lt {a b : Int} (h0 : 0 ≤ a) (h : a < b) : (2 : Int) ^ a.toNat < 2 ^ b.toNat := by
  have h1 := pow2_mono (a := a.toNat) (b := (b - 1).toNat) (by omega)
  have h2 := pow2_pred (w := b) (by omega)
  have h3 := p2 (b - 1).toNat
  omega
theorem pow2_le32 {w : Int} (h : w ≤ 32) : (2 : Int) ^ w.toNat ≤ 4294967296 := pow2_mono (b := 32) (by omega)
theorem pow2_le64 {w : Int} (h : w ≤ 64) : (2 : Int) ^ w.toNat ≤ 18446744073709551616 := pow2_mono (b := 64) (by omega)
theorem divw64 {i j : Int} (h0 : 0 < j) (h : j ≤ 18446744073709551616) : CDivW i j := wide_div h0 (b := 65) (by omega) (by decide) (by decide)
/-! sizes -/
def Sz (n : Nat) (i : Int) : Prop := i.natAbs < 2 ^ n
theorem Sz.lit {n : Nat} {i : Int} (h : i.natAbs < 2 ^ n) : Sz n i := h
theorem Sz.mono {a b : Nat} {i : Int} (h : Sz a i) (hab : a ≤ b) : Sz b i := Nat.lt_of_lt_of_le h (Nat.pow_le_pow_right (by decide) hab)
theorem Sz.mul {a b : Nat} {i j : Int} (h : Sz a i) (h' : Sz b j) : Sz (a + b) (i * j) := wide_lt h h'
theorem Sz.le {a : Nat} {i j : Int} (h : Sz a i) (hl : j.natAbs ≤ i.natAbs) : Sz a j := Nat.lt_of_le_of_lt hl h
theorem Sz.add {a : Nat} {i j : Int} (h : Sz a i) (h' : Sz a j) : Sz (a + 1) (i + j) := by
  unfold Sz at *
  rw [Nat.pow_succ]
  have := Int.natAbs_add_le i j
  omega
theorem Sz.neg {a : Nat} {i : Int} (h : Sz a i) : Sz a (-i) := by unfold Sz at *; rw [Int.natAbs_neg]; exact h
theorem Sz.sub {a : Nat} {i j : Int} (h : Sz a i) (h' : Sz a j) : Sz (a + 1) (i - j) := by
  rw [Int.sub_eq_add_neg]; exact h.add h'.neg
theorem Sz.pow {k : Int} {n : Nat} (h : k ≤ n) : Sz (n + 1) (2 ^ k.toNat) := by
  unfold Sz
  rw [Int.natAbs_pow]
  exact Nat.pow_lt_pow_right (by decide) (by omega)
theorem Sz.shl {a n : Nat} {i k : Int} (h : Sz a i) (hk : k ≤ n) : Sz (a + (n + 1)) (i * 2 ^ k.toNat) := h.mul (Sz.pow hk)
theorem Sz.div {a : Nat} {i j : Int} (h : Sz a i) (hj : 0 < j) : Sz a (i / j) := by
  refine h.le ?_
  have h1 := Int.ediv_mul_add_emod i j
  have h2 := Int.emod_nonneg i (show j ≠ 0 by omega)
  have h3 := Int.emod_lt_of_pos i hj
  by_cases hi : i < 0
  · have h4 : i ≤ i / j := by
      refine (Int.le_ediv_iff_mul_le hj).mpr ?_
      have : i * 1 ≥ i * j := Int.mul_le_mul_of_nonpos_left (by omega) (by omega)
      omega
    have h5 : i / j < 0 := Int.ediv_neg_of_neg_of_pos hi hj
    omega
  · have h4 : i / j ≤ i := Int.ediv_le_self _ (by omega)
    have h5 : 0 ≤ i / j := Int.ediv_nonneg (by omega) (by omega)
    omega
theorem Sz.rng {n : Nat} {i j : Int} (h0 : 0 ≤ i) (h1 : i < j) (h : j.natAbs ≤ 2 ^ n) : Sz n i := by
  unfold Sz; omega
theorem Sz.md {n : Nat} {i j : Int} (h0 : 0 ≤ i) (h1 : i < j) (h : Sz n j) : Sz n i := by
  unfold Sz at *; omega
theorem Sz.or {n : Nat} {x i j : Int} (h : x = i ∨ x = j) (hi : Sz n i) (hj : Sz n j) : Sz n x := by rcases h with rfl | rfl <;> assumption
theorem Sz.abs {n : Nat} {x i : Int} (h : Sz n i) (hx : x = if i < 0 then -i else i) : Sz n x := by
  refine h.le ?_; split at hx <;> omega
theorem mul0 {i j : Int} (h : -(2 ^ 64) < i ∧ i < 2 ^ 64) : CMul i j ∨ CMulX i j := .inl (.inl h)
theorem mul1 {i j : Int} (h : -(2 ^ 64) < j ∧ j < 2 ^ 64) : CMul i j ∨ CMulX i j := .inl (.inr h)
theorem shl0 {i j : Int} (h : 0 ≤ j) (h' : j ≤ 1000000) (h2 : i.natAbs < 2 ^ 64) : CPow i j ∨ CShl i j := .inl ⟨h, h', h2⟩
theorem szW {i : Int} (h : -(2 ^ 200) < i ∧ i < 2 ^ 200) : Sz 200 i := by unfold Sz; omega
theorem mulW {i j : Int} (h : -(2 ^ 200) < i ∧ i < 2 ^ 200) (h' : -(2 ^ 200) < j ∧ j < 2 ^ 200) : CMul i j ∨ CMulX i j := .inr (mulx_ok (szW h) (szW h') (by decide))
theorem divW {i j : Int} (h : 0 < j) (h' : j < 2 ^ 200) : CDivW i j := wide_div h (b := 200) (szW ⟨by omega, h'⟩) (by decide) (by decide)
theorem shlW {i j : Int} (h : 0 ≤ j) (h' : j ≤ 1000) (h2 : -(2 ^ 200) < i ∧ i < 2 ^ 200) : CPow i j ∨ CShl i j := by
  obtain ⟨n, rfl⟩ := Int.eq_ofNat_of_zero_le h
  exact .inr (shl_ok (n := 200) (szW h2) (by omega))
theorem mulx {a b : Nat} {i j : Int} (h : Sz a i) (h' : Sz b j) (hl : a + b ≤ 134217728) : CMulX i j := mulx_ok h h' hl
theorem divz {b : Nat} {i j : Int} (h : 0 < j) (hb : Sz b j) (h0 : 0 < b) (h9 : b ≤ 9000) : CDivW i j := wide_div h hb h0 h9
theorem divzF {b : Nat} {j : Int} (h : j ≠ 0) (hb : Sz b j) (h0 : 0 < b) (h9 : b ≤ 9000) : j ≠ 0 ∧ j.natAbs.log2 < 9000 := ⟨h, Nat.lt_of_lt_of_le (PySem.Flt.log2_lt_of h0 hb) h9⟩
theorem eqdd {P P' : Prop} [Decidable P] [Decidable P'] {Q : VK} {H : Hp} (h : P ↔ P') (q : Q (.bl (decide P')) H) : Q (.bl (decide P)) H := by rw [decide_eq_decide.mpr h]; exact q
theorem eqeqb {i j : Bool} {Q : VK} {H : Hp} (h : i = j) (q : Q (.bl true) H) : Q (.bl (decide (V.bl i = V.bl j))) H := by rw [decide_eq_true (by rw [h])]; exact q
theorem ix_tupK {X : Cx} {K : PySem.W.Frag} (h : X.K = K) : IxR X (rIxT K) := h ▸ ix_tup
theorem call_list_ofK {X : Cx} {K : PySem.W.Frag} (h : X.K = K) : CallR X (.type "list") (fun xs H Q => ∃ p ys, xs = [V.ref p] ∧ (SqL K H p ys ∨ SqT K H p ys) ∧ ∀ l, H l = none → Q (V.ref l) (upd H l (.lst ys))) := h ▸ call_list_of
theorem ix_listK {X : Cx} {K : PySem.W.Frag} (h : X.K = K) : IxR X (rIxL K) := h ▸ ix_list
theorem call_lenK {X : Cx} {K : PySem.W.Frag} (h : X.K = K) : CallR X (.builtin "len") (fun xs H Q => ∃ p ys, xs = [.ref p] ∧ (SqL K H p ys ∨ SqT K H p ys) ∧ Q (.int ys.length) H) := h ▸ call_len_seq
theorem tyes {σ : L2.St} {H : Hp} {Q : Bool → Hp → Prop} (h : Q true H) : tYes σ H Q := h
theorem dmz {a : Nat} {i j : Int} (h : 0 < j) (hz : Sz a i) (ha : a ≤ 4000) : CDivP i j := divp_ok h (by have := PyProof.Rows.intBits_le hz; omega)
theorem dms {i j : Int} (h : 0 < j) (h0 : -(2 ^ 64) < i) (h1 : i < 2 ^ 64) : CDivP i j := dmz (a := 64) h (by unfold Sz; omega) (by decide)
theorem shlz {a n : Nat} {i j : Int} (h : Sz a i) (h0 : 0 ≤ j) (hj : j ≤ n) (hn : a + n ≤ 134217728) : CShl i j := by
  obtain ⟨k, rfl⟩ : ∃ k : Nat, j = k := ⟨j.toNat, by omega⟩
  exact shl_ok h (by omega)
/-- all but the object at b is as it was -/
def Fm (b : Addr) (H H' : Hp) : Prop := ∀ q o, q ≠ b → H q = some o → H' q = some o
theorem at_fmT {b p : Addr} {xs ys : List V} (f : Fm b H H') (hb : H b = some (.lst ys)) (h : H p = some (.tup xs)) : H' p = some (.tup xs) := f _ _ (ne_tl h hb) h
theorem Fm.refl {b : Addr} {H : Hp} : Fm b H H := fun _ _ _ h => h
theorem Fm.same {b : Addr} {H H1 H2 : Hp} (a : Fm b H H1) (s : Same H1 H2) : Fm b H H2 := fun q o n h => s q o (a q o n h)
theorem Fm.mut {b : Addr} {H H1 : Hp} {u : HO} (a : Fm b H H1) : Fm b H (upd H1 b u) := fun q o n h => by rw [upd_ne n]; exact a q o n h
theorem Fm.mutF {b c : Addr} {H H1 : Hp} {u : HO} (a : Fm b H H1) (hc : H c = none) : Fm b H (upd H1 c u) := fun q o n h => by rw [upd_ne (ne_of_none h hc)]; exact a q o n h
theorem Fm.trans {b : Addr} {H H1 H2 : Hp} (a : Fm b H H1) (s : Fm b H1 H2) : Fm b H H2 := fun q o n h => s q o n (a q o n h)
theorem Fm.frameF {b c : Addr} {H H1 H2 : Hp} (a : Fm b H H1) (s : Fm c H1 H2) (hc : H c = none) : Fm b H H2 := fun q o n h => s q o (ne_of_none h hc) (a q o n h)
theorem Fm.free {b : Addr} {H H' : Hp} (a : Fm b H H') {o : HO} {l : Addr} (hb : H' b = some o) (h : H' l = none) : H l = none := by
  cases e : H l with
  | none => rfl
  | some u =>
    have n : l ≠ b := fun z => by rw [z, hb] at h; cases h
    rw [a l u n e] at h; cases h
theorem same_frame {c : Addr} {H H1 H2 : Hp} (s : Same H H1) (f : Fm c H1 H2) (hc : H c = none) : Same H H2 := fun q o h => f q o (ne_of_none h hc) (s q o h)
/-! lists of ints -/
theorem szl {n : Nat} (h : n < 1000000) : n < sizeLine := Nat.lt_of_lt_of_le h (by decide)
theorem szle {n : Nat} (h : n ≤ 1000000) : n ≤ sizeLine := Nat.le_trans h (by decide)
section
variable {X : Cx} {K : PySem.W.Frag} {H H' : Hp} {Q : VK} {a : Addr}
theorem ap_ints {xs : List Int} {e : Int} (h : H a = some (.lst (xs.map V.int ++ [.int e]))) : H a = some (.lst ((xs ++ [e]).map V.int)) := by
  rw [List.map_append]; exact h
theorem set_ints {xs : List Int} {e : Int} {j : Nat} (h : H a = some (.lst ((xs.map V.int).set j (.int e)))) : H a = some (.lst ((xs.set j e).map V.int)) := by
  rw [List.map_set]; exact h
theorem dpAll_ints : ∀ xs : List Int, DpAll K H (xs.map V.int) (xs.map PyData.int)
  | [] => .nil
  | x :: xs => .cons (.int x) (dpAll_ints xs)
theorem dp_ints {xs : List Int} (h : SqL K H a (xs.map V.int)) : Dp K H (.ref a) (.list (xs.map PyData.int)) := .lst h (dpAll_ints xs)
theorem layAll_ints : ∀ xs : List Int, PyData.canLayAll0 (xs.map PyData.int) = true
  | [] => rfl
  | x :: xs => by
    rw [List.map_cons, PyData.canLayAll0, layAll_ints xs]
    rfl
theorem depAll_ints : ∀ xs : List Int, PyData.depthAll (xs.map PyData.int) = 0
  | [] => rfl
  | x :: xs => by
    rw [List.map_cons, PyData.depthAll, depAll_ints xs]
    rfl
theorem shaped_ints (xs : List Int) : SeqAt.shaped (.list (xs.map PyData.int)) = true := by
  unfold SeqAt.shaped
  rw [PyData.canLay0, PyData.depth, layAll_ints, depAll_ints]
  rfl
theorem shp {d : PyData} (h : PyData.canLay0 d = true) (g : PyData.depth d ≤ 64) : SeqAt.shaped d = true := by
  unfold SeqAt.shaped; rw [h]; simpa using g
theorem eqvAll_ints : ∀ xs ys : List Int, PyData.eqvAll (xs.map PyData.int) (ys.map PyData.int) = decide (xs = ys)
  | [], [] => rfl
  | [], _ :: _ => rfl
  | _ :: _, [] => rfl
  | x :: xs, y :: ys => by
    rw [List.map_cons, List.map_cons, PyData.eqvAll, PyData.eqv, eqvAll_ints xs ys]
    by_cases h : x = y
    · by_cases h2 : xs = ys <;> simp [h, h2]
    · simp [h]
theorem eqv_ints (xs ys : List Int) : PyData.eqv (.list (xs.map PyData.int)) (.list (ys.map PyData.int)) = decide (xs = ys) := by
  rw [PyData.eqv]; exact eqvAll_ints xs ys
theorem op_eqI (hu : X.A.units + 64 < cLine) : OpR X (compareOp .Eq) (fun x y H Q => ∃ (a b : Addr) (xs ys : List Int), x = .ref a ∧ y = .ref b ∧ SqL X.K H a (xs.map V.int) ∧ SqL X.K H b (ys.map V.int) ∧ Q (.bl (decide (xs = ys))) H) := by
  intro pins s σ H x y v u Q I rx ry h
  obtain ⟨a, b, xs, ys, rfl, rfl, h1, h2, q⟩ := h
  refine op_eqD hu pins s σ H _ _ v u Q I rx ry ⟨_, _, dp_ints h1, dp_ints h2, shaped_ints _, shaped_ints _, ?_⟩
  rw [eqv_ints]; exact q
theorem op_neI (hu : X.A.units + 64 < cLine) : OpR X (compareOp .NotEq) (fun x y H Q => ∃ (a b : Addr) (xs ys : List Int), x = .ref a ∧ y = .ref b ∧ SqL X.K H a (xs.map V.int) ∧ SqL X.K H b (ys.map V.int) ∧ Q (.bl (!decide (xs = ys))) H) := by
  intro pins s σ H x y v u Q I rx ry h
  obtain ⟨a, b, xs, ys, rfl, rfl, h1, h2, q⟩ := h
  refine op_neD hu pins s σ H _ _ v u Q I rx ry ⟨_, _, dp_ints h1, dp_ints h2, shaped_ints _, shaped_ints _, ?_⟩
  rw [eqv_ints]; exact q
theorem dpT_ints {xs : List Int} (h : SqT K H a (xs.map V.int)) : Dp K H (.ref a) (.tuple (xs.map PyData.int)) := .tup h (dpAll_ints xs)
theorem shapedT_ints (xs : List Int) : SeqAt.shaped (.tuple (xs.map PyData.int)) = true := by
  unfold SeqAt.shaped
  rw [PyData.canLay0, PyData.depth, layAll_ints, depAll_ints]
  rfl
theorem eqvT_ints (xs ys : List Int) : PyData.eqv (.tuple (xs.map PyData.int)) (.tuple (ys.map PyData.int)) = decide (xs = ys) := by
  rw [PyData.eqv]; exact eqvAll_ints xs ys
theorem op_eqT (hu : X.A.units + 64 < cLine) : OpR X (compareOp .Eq) (fun x y H Q => ∃ (a b : Addr) (xs ys : List Int), x = .ref a ∧ y = .ref b ∧ SqT X.K H a (xs.map V.int) ∧ SqT X.K H b (ys.map V.int) ∧ Q (.bl (decide (xs = ys))) H) := by
  intro pins s σ H x y v u Q I rx ry h
  obtain ⟨a, b, xs, ys, rfl, rfl, h1, h2, q⟩ := h
  refine op_eqD hu pins s σ H _ _ v u Q I rx ry ⟨_, _, dpT_ints h1, dpT_ints h2, shapedT_ints _, shapedT_ints _, ?_⟩
  rw [eqvT_ints]; exact q
theorem op_neT (hu : X.A.units + 64 < cLine) : OpR X (compareOp .NotEq) (fun x y H Q => ∃ (a b : Addr) (xs ys : List Int), x = .ref a ∧ y = .ref b ∧ SqT X.K H a (xs.map V.int) ∧ SqT X.K H b (ys.map V.int) ∧ Q (.bl (!decide (xs = ys))) H) := by
  intro pins s σ H x y v u Q I rx ry h
  obtain ⟨a, b, xs, ys, rfl, rfl, h1, h2, q⟩ := h
  refine op_neD hu pins s σ H _ _ v u Q I rx ry ⟨_, _, dpT_ints h1, dpT_ints h2, shapedT_ints _, shapedT_ints _, ?_⟩
  rw [eqvT_ints]; exact q
theorem flat_ints (xs : List Int) : (xs.map V.int).all flatV = true := by
  rw [List.all_map, List.all_eq_true]; intro x _; rfl
theorem inV_ints (i : Int) (xs : List Int) : inV (.int i) (xs.map V.int) = decide (i ∈ xs) := by
  unfold inV
  rw [Bool.eq_iff_iff, List.any_map, List.any_eq_true, decide_eq_true_eq]
  constructor
  · rintro ⟨y, hy, e⟩
    have : (y == i) = true := e
    rw [← beq_iff_eq.mp this]; exact hy
  · exact fun h => ⟨i, h, beq_self_eq_true i⟩
theorem op_inI : OpR X (compareOp .In) (fun x y H Q => ∃ (i : Int) (p : Addr) (xs : List Int), x = .int i ∧ y = .ref p ∧ SqL X.K H p (xs.map V.int) ∧ Q (.bl (decide (i ∈ xs))) H) := by
  intro pins s σ H x y v u Q I rx ry h
  obtain ⟨i, p, xs, rfl, rfl, hs, q⟩ := h
  refine op_in_seq pins s σ H _ _ v u Q I rx ry ⟨_, _, rfl, .inl hs, rfl, flat_ints xs, ?_⟩
  rw [if_neg Bool.false_ne_true, inV_ints]
  exact q
theorem op_notInI : OpR X (compareOp .NotIn) (fun x y H Q => ∃ (i : Int) (p : Addr) (xs : List Int), x = .int i ∧ y = .ref p ∧ SqL X.K H p (xs.map V.int) ∧ Q (.bl (!decide (i ∈ xs))) H) := by
  intro pins s σ H x y v u Q I rx ry h
  obtain ⟨i, p, xs, rfl, rfl, hs, q⟩ := h
  refine op_notIn_seq pins s σ H _ _ v u Q I rx ry ⟨_, _, rfl, .inl hs, rfl, flat_ints xs, ?_⟩
  rw [if_pos rfl, inV_ints]
  exact q
theorem ixN_nat {n j : Nat} (h : j < n) : ixN n (j : Int) = some j := by
  unfold ixN
  rw [if_pos (by omega), if_pos (by omega)]; simp
theorem ixlast {xs : List Int} (h : SqL K H a (xs.map V.int)) (h0 : 0 < xs.length) (q : ∀ y, xs.getLast? = some y → Q (.int y) H) : rIxL K (.ref a) (.int (-1)) H Q := by
  obtain ⟨y, hy⟩ : ∃ y, xs.getLast? = some y := by
    cases e : xs.getLast? with
    | none => rw [List.getLast?_eq_none_iff] at e; subst e; simp at h0
    | some y => exact ⟨y, rfl⟩
  refine ⟨a, _, _, .int y, rfl, rfl, h, ?_, q y hy⟩
  obtain ⟨ys, rfl⟩ := List.getLast?_eq_some_iff.mp hy
  rw [List.map_append]
  exact atI_last _ _
end
/-! items -/
section
variable {K : PySem.W.Frag} {H : Hp} {Q : VK} {a : Addr}
theorem ixi {xs : List Int} {i : Int} (h : SqL K H a (xs.map V.int)) (h0 : 0 ≤ i) (h1 : i < xs.length) (q : ∀ y, xs[i.toNat]? = some y → Q (.int y) H) : rIxL K (.ref a) (.int i) H Q := by
  obtain ⟨n, rfl⟩ : ∃ n : Nat, i = n := ⟨i.toNat, by omega⟩
  have hl : n < xs.length := by omega
  refine ⟨a, _, _, .int (xs[n]'hl), rfl, rfl, h, atI_nat ?_, q _ (List.getElem?_eq_getElem hl)⟩
  rw [List.getElem?_map, List.getElem?_eq_getElem hl]
  all_goals rfl
theorem inV_int {y : Int} {xs : List Int} (h : y ∈ xs) : (if false = true then !(inV (.int y) (xs.map V.int)) else inV (.int y) (xs.map V.int)) = true := by
  rw [if_neg Bool.false_ne_true]
  unfold inV
  rw [List.any_map, List.any_eq_true]
  exact ⟨y, h, by simp [eqV]⟩
theorem ixn {xs : List Int} {i : Int} (h : SqL K H a (xs.map V.int)) (h0 : 0 ≤ i) (h1 : i < xs.length) (q : ∀ y, xs[i.toNat]? = some y → Q (.int y) H) : rIxL K (.ref a) (.int i) H Q := ixi h h0 h1 q
theorem ixi2 {x0 x1 : Int} {i : Int} (h : SqL K H a [.int x0, .int x1]) (hi : 0 ≤ i ∧ i < 2) (q : ∀ y, ((i = 0 ∧ y = x0) ∨ (i = 1 ∧ y = x1)) → Q (.int y) H) : rIxL K (.ref a) (.int i) H Q := by
  refine ixi (xs := [x0, x1]) h hi.1 hi.2 fun y hy => q y ?_
  have : i = 0 ∨ i = 1 := by omega
  rcases this with rfl | rfl <;> simp at hy <;> omega
theorem ixi3 {x0 x1 x2 : Int} {i : Int} (h : SqL K H a [.int x0, .int x1, .int x2]) (hi : 0 ≤ i ∧ i < 3) (q : ∀ y, ((i = 0 ∧ y = x0) ∨ (i = 1 ∧ y = x1) ∨ (i = 2 ∧ y = x2)) → Q (.int y) H) : rIxL K (.ref a) (.int i) H Q := by
  refine ixi (xs := [x0, x1, x2]) h hi.1 hi.2 fun y hy => q y ?_
  have : i = 0 ∨ i = 1 ∨ i = 2 := by omega
  rcases this with rfl | rfl | rfl <;> simp at hy <;> omega

theorem gturn {n i : Nat} {σ : L2.St} {R : L2.St → Hp → Prop} (h : ∀ x : Int, x = (i : Int) → gName n (.int x) σ H R) : gName n (.int (0 + (i : Int))) σ H R := h _ (by omega)
theorem ints_get {xs : List Int} {i : Nat} {v : V} (h : (xs.map V.int)[i]? = some v) : ∃ n, v = .int n ∧ xs[i]? = some n := by
  rw [List.getElem?_map] at h
  cases e : xs[i]? with
  | none => rw [e] at h; cases h
  | some n => rw [e] at h; exact ⟨n, (Option.some.inj h).symm, rfl⟩
/-- the ints a .. b - 1 -/
def rgI (a b : Int) : List Int := (List.range (b - a).toNat).map fun i => a + (i : Nat)
theorem rg_at {a : Addr} {x y : Int} : upd H a (.lst (rgV x y)) a = some (.lst ((rgI x y).map V.int)) := by
  rw [upd_same]
  unfold rgV rgI
  rw [List.map_map]
  rfl
theorem rgI_mem {n y : Int} (h : y ∈ rgI 0 n) : 0 ≤ y ∧ y < n := by
  obtain ⟨j, hj, rfl⟩ := List.mem_map.mp h
  have := List.mem_range.mp hj
  omega
theorem rgI_rng {a b y : Int} (h : y ∈ rgI a b) : a ≤ y ∧ y < b := by
  obtain ⟨j, hj, rfl⟩ := List.mem_map.mp h
  have := List.mem_range.mp hj
  omega
theorem cat_at {a : Addr} {xs ys : List Int} : upd H a (.lst (xs.map V.int ++ ys.map V.int)) a = some (.lst ((xs ++ ys).map V.int)) := by
  rw [upd_same, List.map_append]
theorem szc {xs ys : List Int} {n : Nat} (h : xs.length + ys.length ≤ n) (hn : n ≤ sizeLine) : (xs.map V.int).length + (ys.map V.int).length ≤ sizeLine := by
  rw [List.length_map, List.length_map]; omega
/-! an if whose two ways meet again in one state -/
theorem join {tc : TT} {t1 t2 u : TS} {D : Ends} {σ : L2.St} {H : Hp} (Pv : L2.St → Hp → Prop) (h1 : ∀ N : L2.St → Hp → Prop, (∀ σ2 H2, Pv σ2 H2 → N σ2 H2) → tIfS tc t1 t2 { D with nx := N } σ H) (h2 : ∀ σ2 H2, Pv σ2 H2 → u D σ2 H2) : tSeq (tIfS tc t1 t2) u D σ H := h1 _ h2
theorem setc {i : Nat} {te : TE} {u : TS} {D : Ends} {σ : L2.St} {H : Hp} (v : V) (h : u D (σ.set i (some v)) H) (e : ∀ Q : VK, Q v H → te σ H Q := by exact fun _ z => z) : tSeq (tAsg te (gName i)) u D σ H := e _ h
theorem gnm {i : Nat} {v : V} {σ : L2.St} {H : Hp} {N bk ct : L2.St → Hp → Prop} {rt : VK} (h : N (σ.set i (some v)) H) : gName i v σ H (Ends.nx ⟨N, rt, bk, ct⟩) := h
theorem gnmS {i : Nat} {v : V} {σ σ' : L2.St} {H : Hp} {N bk ct : L2.St → Hp → Prop} {rt : VK} (e : σ.set i (some v) = σ') (h : N σ' H) : gName i v σ H (Ends.nx ⟨N, rt, bk, ct⟩) := by subst e; exact h
theorem tnx {σ : L2.St} {H : Hp} {N bk ct : L2.St → Hp → Prop} {rt : VK} (h : N σ H) : tNext ⟨N, rt, bk, ct⟩ σ H := h
theorem joinL {tc : TT} {t1 t2 : TS} {D : Ends} {σ : L2.St} {H : Hp} (Pv : L2.St → Hp → Prop) (h1 : ∀ N : L2.St → Hp → Prop, (∀ σ2 H2, Pv σ2 H2 → N σ2 H2) → tIfS tc t1 t2 { D with nx := N } σ H) (h2 : ∀ σ2 H2, Pv σ2 H2 → D.nx σ2 H2) : tIfS tc t1 t2 D σ H := h1 _ h2
/-! a for over a written list, turn by turn -/
def unr (K : PySem.W.Frag) (a : Addr) (xs : List V) (g : TG) (tb : TS) (D : Ends) : List V → L2.St → Hp → Prop
  | [], σ, H => SqL K H a xs ∧ D.nx σ H
  | x :: r, σ, H => SqL K H a xs ∧ g x σ H fun σ2 H2 => tb { D with nx := unr K a xs g tb D r, ct := unr K a xs g tb D r, bk := D.nx } σ2 H2
theorem un_start {xs : List V} {g : TG} {tb : TS} {D : Ends} {σ : L2.St} (h : unr K a xs g tb D xs σ H) :
    ∃ W : Nat → Nat → L2.St → Hp → Prop, (∃ m, W 0 m σ H) ∧ ∀ i m σ H, W i m σ H →
      ((Itl K a).stop i H ∧ D.nx σ H) ∨ ((Itl K a).go i H ∧ ∃ N : L2.St → Hp → Prop, (∀ σ' H', N σ' H' → ∃ m', m' < m ∧ W (i + 1) m' σ' H') ∧ ∀ x H', (Itl K a).yld i H x H' → g x σ H' fun σ2 H2 => tb { D with nx := N, ct := N, bk := D.nx } σ2 H2) := by
  refine ⟨fun i m σ H => m = xs.length - i ∧ i ≤ xs.length ∧ unr K a xs g tb D (xs.drop i) σ H, ⟨xs.length, by simp, Nat.zero_le _, h⟩, ?_⟩
  rintro i m σ H ⟨rfl, hi, p⟩
  by_cases hlt : i < xs.length
  · rw [List.drop_eq_getElem_cons hlt] at p
    obtain ⟨q, p⟩ := p
    refine .inr ⟨⟨xs, xs[i], q, by simp [hlt]⟩, unr K a xs g tb D (xs.drop (i + 1)), fun σ' H' p' => ⟨xs.length - (i + 1), by omega, rfl, hlt, p'⟩, fun x H' y => ?_⟩
    obtain ⟨e, y⟩ := y
    subst e
    have e2 := y xs q
    rw [List.getElem?_eq_getElem hlt] at e2
    cases e2
    exact p
  · have e : i = xs.length := by omega
    subst e
    rw [List.drop_length] at p
    obtain ⟨q, p⟩ := p
    exact .inl ⟨⟨xs, q, Nat.le_refl _⟩, p⟩
end
/-! a comprehension over a written list, turn by turn -/
def unlc (K : PySem.W.Frag) (a : Addr) (xs : List V) (g : TG) (tt : TT) (te : TE) (σ : L2.St) (vs : List Nat) (D : Addr) (Qd : Hp → Prop) : List V → Hp → Prop
  | [], H => SqL K H a xs ∧ Qd H
  | x :: r, H => SqL K H a xs ∧ g x (wipe σ vs) H fun σ2 H2 => wipe σ2 vs = wipe σ vs ∧ tt σ2 H2 fun b H3 =>
      if b = true then te σ2 H3 fun y H4 => ∃ acc, H4 D = some (.lst acc) ∧ acc.length < sizeLine ∧ unlc K a xs g tt te σ vs D Qd r (upd H4 D (.lst (acc ++ [y]))) else unlc K a xs g tt te σ vs D Qd r H3
theorem unlc_start {K : PySem.W.Frag} {a : Addr} {xs : List V} {g : TG} {tt : TT} {te : TE} {σ : L2.St} {vs : List Nat} {H1 : Hp} {D : Addr} {Qd : Hp → Prop} (h : unlc K a xs g tt te σ vs D Qd xs (upd H1 D (.lst []))) :
    ∃ W : Nat → Nat → Hp → Prop, (∃ m, W 0 m (upd H1 D (.lst []))) ∧ ∀ i m H, W i m H →
      ((Itl K a).stop i H ∧ Qd H) ∨ ((Itl K a).go i H ∧ ∃ Nx : Hp → Prop, (∀ H', Nx H' → ∃ m', m' < m ∧ W (i + 1) m' H') ∧ ∀ x H', (Itl K a).yld i H x H' → g x (wipe σ vs) H' fun σ2 H2 => wipe σ2 vs = wipe σ vs ∧ tt σ2 H2 fun b H3 =>
        if b = true then te σ2 H3 fun y H4 => ∃ acc, H4 D = some (.lst acc) ∧ acc.length < sizeLine ∧ Nx (upd H4 D (.lst (acc ++ [y]))) else Nx H3) := by
  refine ⟨fun i m H => m = xs.length - i ∧ i ≤ xs.length ∧ unlc K a xs g tt te σ vs D Qd (xs.drop i) H, ⟨xs.length, by simp, Nat.zero_le _, h⟩, ?_⟩
  rintro i m H ⟨rfl, hi, p⟩
  by_cases hlt : i < xs.length
  · rw [List.drop_eq_getElem_cons hlt] at p
    obtain ⟨q, p⟩ := p
    refine .inr ⟨⟨xs, xs[i], q, by simp [hlt]⟩, unlc K a xs g tt te σ vs D Qd (xs.drop (i + 1)), fun H' p' => ⟨xs.length - (i + 1), by omega, rfl, hlt, p'⟩, fun x H' y => ?_⟩
    obtain ⟨e, y⟩ := y
    subst e
    have e2 := y xs q
    rw [List.getElem?_eq_getElem hlt] at e2
    cases e2
    exact p
  · have e : i = xs.length := by omega
    subst e
    rw [List.drop_length] at p
    obtain ⟨q, p⟩ := p
    exact .inl ⟨⟨xs, q, Nat.le_refl _⟩, p⟩
/-- a def that stands behind the top -/
structure Dk (K : PySem.W.Frag) (mg : Str → Option Value) (x qual : Str) (st : Stmt) (ps : List Str) : Type where
  f : Addr
  fd : FuncData
  F : Fun K x qual st f fd
  b : Binds K fd ps []
  m : mg x = some (.ref f)
end Ow

namespace Ow
open PySem PySem.Spec PyProof.Rows L2
/-! ### lists of tuples of ints -/
def g2 (r : Int × Int) : List Int := [r.1, r.2]
def g3 (r : Int × Int × Int) : List Int := [r.1, r.2.1, r.2.2]
def g4 (r : Int × Int × Int × Int) : List Int := [r.1, r.2.1, r.2.2.1, r.2.2.2]
def g5 (r : Int × Int × Int × Int × Int) : List Int := [r.1, r.2.1, r.2.2.1, r.2.2.2.1, r.2.2.2.2]
def g6 (r : Int × Int × Int × Int × Int × Int) : List Int := [r.1, r.2.1, r.2.2.1, r.2.2.2.1, r.2.2.2.2.1, r.2.2.2.2.2]
def g7 (r : Int × Int × Int × Int × Int × Int × Int) : List Int := [r.1, r.2.1, r.2.2.1, r.2.2.2.1, r.2.2.2.2.1, r.2.2.2.2.2.1, r.2.2.2.2.2.2]
abbrev Rw2 := List (Int × Int)
abbrev Rw3 := List (Int × Int × Int)
abbrev Rw4 := List (Int × Int × Int × Int)
abbrev Rw7 := List (Int × Int × Int × Int × Int × Int × Int)
inductive Rws {α : Type} (g : α → List Int) (H : Hp) : List V → List α → Prop
  | nil : Rws g H [] []
  | cons {p : Addr} {r : α} {vs : List V} {rs : List α} : H p = some (.tup ((g r).map V.int)) → Rws g H vs rs → Rws g H (.ref p :: vs) (r :: rs)
section
variable {α : Type} {g : α → List Int} {H H' : Hp} {vs : List V} {rs : List α}
theorem Rws.imp (h : ∀ p xs, H p = some (.tup xs) → H' p = some (.tup xs)) (R : Rws g H vs rs) : Rws g H' vs rs := by
  induction R with
  | nil => exact .nil
  | cons a _ ih => exact .cons (h _ _ a) ih
theorem Rws.same (s : Same H H') (R : Rws g H vs rs) : Rws g H' vs rs := R.imp fun _ _ e => s _ _ e
theorem Rws.new {p : Addr} {u : HO} (hp : H p = none) (R : Rws g H vs rs) : Rws g (upd H p u) vs rs := R.imp fun _ _ e => at_new hp e
theorem Rws.mut {b : Addr} {u : HO} {ys : List V} (hb : H b = some (.lst ys)) (R : Rws g H vs rs) : Rws g (upd H b u) vs rs := R.imp fun _ _ e => at_mut (ne_tl e hb) e
theorem Rws.fm {b : Addr} {ys : List V} (f : Fm b H H') (hb : H b = some (.lst ys)) (R : Rws g H vs rs) : Rws g H' vs rs := R.imp fun _ _ e => f _ _ (ne_tl e hb) e
theorem Rws.len (R : Rws g H vs rs) : vs.length = rs.length := by
  induction R with
  | nil => rfl
  | cons _ _ ih => rw [List.length_cons, List.length_cons, ih]
theorem Rws.app {ws : List V} {ts : List α} (R : Rws g H vs rs) (S : Rws g H ws ts) : Rws g H (vs ++ ws) (rs ++ ts) := by
  induction R with
  | nil => exact S
  | cons a _ ih => exact .cons a ih
theorem Rws.snoc {p : Addr} {r : α} (R : Rws g H vs rs) (h : H p = some (.tup ((g r).map V.int))) : Rws g H (vs ++ [.ref p]) (rs ++ [r]) := R.app (.cons h .nil)
theorem Rws.take (R : Rws g H vs rs) (n : Nat) : Rws g H (vs.take n) (rs.take n) := by
  induction R generalizing n with
  | nil => rw [List.take_nil, List.take_nil]; exact .nil
  | cons a _ ih => cases n with
    | zero => exact .nil
    | succ n => exact .cons a (ih n)
theorem Rws.drop (R : Rws g H vs rs) (n : Nat) : Rws g H (vs.drop n) (rs.drop n) := by
  induction R generalizing n with
  | nil => rw [List.drop_nil, List.drop_nil]; exact .nil
  | cons a b ih => cases n with
    | zero => exact .cons a b
    | succ n => exact ih n
theorem Rws.dropLast (R : Rws g H vs rs) : Rws g H vs.dropLast rs.dropLast := by
  rw [List.dropLast_eq_take, List.dropLast_eq_take, R.len]; exact R.take _
theorem Rws.rev (R : Rws g H vs rs) : Rws g H vs.reverse rs.reverse := by
  induction R with
  | nil => exact .nil
  | cons a _ ih => rw [List.reverse_cons, List.reverse_cons]; exact ih.snoc a
theorem Rws.get {i : Nat} {v : V} (R : Rws g H vs rs) (h : vs[i]? = some v) : ∃ p r, v = .ref p ∧ H p = some (.tup ((g r).map V.int)) ∧ rs[i]? = some r := by
  induction R generalizing i with
  | nil => cases h
  | cons a _ ih => cases i with
    | zero => cases h; exact ⟨_, _, rfl, a, rfl⟩
    | succ n => exact ih h
theorem Rws.at {i : Nat} (R : Rws g H vs rs) (h : i < rs.length) : ∃ p r, vs[i]? = some (.ref p) ∧ H p = some (.tup ((g r).map V.int)) ∧ rs[i]? = some r := by
  have hl := R.len
  obtain ⟨p, r, e, hp, hr⟩ := R.get (List.getElem?_eq_getElem (by omega : i < vs.length))
  exact ⟨p, r, by rw [List.getElem?_eq_getElem (by omega : i < vs.length), e], hp, hr⟩
def rowD (g : α → List Int) (r : α) : PyData := .tuple ((g r).map PyData.int)
theorem Rws.dps {K : PySem.W.Frag} (R : Rws g H vs rs) : DpAll K H vs (rs.map (rowD g)) := by
  induction R with
  | nil => exact .nil
  | cons a _ ih => exact .cons (dpT_ints (SqT.of a)) ih
theorem layAll_rows (g : α → List Int) : ∀ rs : List α, PyData.canLayAll0 (rs.map (rowD g)) = true
  | [] => rfl
  | r :: rs => by
    rw [List.map_cons, PyData.canLayAll0, layAll_rows g rs, rowD, PyData.canLay0, layAll_ints]
    rfl
theorem depAll_rows (g : α → List Int) : ∀ rs : List α, PyData.depthAll (rs.map (rowD g)) ≤ 1
  | [] => Nat.zero_le _
  | r :: rs => by
    have := depAll_rows g rs
    rw [List.map_cons, PyData.depthAll, rowD, PyData.depth, depAll_ints]
    omega
theorem shaped_rows (g : α → List Int) (rs : List α) : SeqAt.shaped (.list (rs.map (rowD g))) = true := by
  unfold SeqAt.shaped
  rw [PyData.canLay0, PyData.depth, layAll_rows]
  have := depAll_rows g rs
  simp only [Bool.true_and, decide_eq_true_eq]
  omega
theorem eqvAll_rows (g : α → List Int) : ∀ xs ys : List α, PyData.eqvAll (xs.map (rowD g)) (ys.map (rowD g)) = decide (xs.map g = ys.map g)
  | [], [] => rfl
  | [], _ :: _ => rfl
  | _ :: _, [] => rfl
  | x :: xs, y :: ys => by
    rw [List.map_cons, List.map_cons, PyData.eqvAll, rowD, rowD, eqvT_ints, eqvAll_rows g xs ys, List.map_cons, List.map_cons]
    by_cases h : g x = g y
    · by_cases h2 : xs.map g = ys.map g <;> simp [h, h2]
    · simp [h]
end
theorem op_eqR {X : Cx} (hu : X.A.units + 64 < cLine) {α : Type} (g : α → List Int) : OpR X (compareOp .Eq) (fun x y H Q => ∃ (a b : Addr) (vs ws : List V) (xs ys : List α), x = .ref a ∧ y = .ref b ∧ SqL X.K H a vs ∧ SqL X.K H b ws ∧ Rws g H vs xs ∧ Rws g H ws ys ∧ Q (.bl (decide (xs.map g = ys.map g))) H) := by
  intro pins s σ H x y v u Q I rx ry h
  obtain ⟨a, b, vs, ws, xs, ys, rfl, rfl, h1, h2, r1, r2, q⟩ := h
  refine op_eqD hu pins s σ H _ _ v u Q I rx ry ⟨_, _, .lst h1 r1.dps, .lst h2 r2.dps, shaped_rows _ _, shaped_rows _ _, ?_⟩
  rw [PyData.eqv, eqvAll_rows]; exact q
theorem op_neR {X : Cx} (hu : X.A.units + 64 < cLine) {α : Type} (g : α → List Int) : OpR X (compareOp .NotEq) (fun x y H Q => ∃ (a b : Addr) (vs ws : List V) (xs ys : List α), x = .ref a ∧ y = .ref b ∧ SqL X.K H a vs ∧ SqL X.K H b ws ∧ Rws g H vs xs ∧ Rws g H ws ys ∧ Q (.bl (!decide (xs.map g = ys.map g))) H) := by
  intro pins s σ H x y v u Q I rx ry h
  obtain ⟨a, b, vs, ws, xs, ys, rfl, rfl, h1, h2, r1, r2, q⟩ := h
  refine op_neD hu pins s σ H _ _ v u Q I rx ry ⟨_, _, .lst h1 r1.dps, .lst h2 r2.dps, shaped_rows _ _, shaped_rows _ _, ?_⟩
  rw [PyData.eqv, eqvAll_rows]; exact q
section
variable {K : PySem.W.Frag} {H : Hp} {Q : VK} {a : Addr} {α : Type} {g : α → List Int} {vs : List V} {rs : List α}
theorem ixrow {i : Int} (h : SqL K H a vs) (R : Rws g H vs rs) (h0 : 0 ≤ i) (h1 : i < rs.length) (q : ∀ p r, rs[i.toNat]? = some r → H p = some (.tup ((g r).map V.int)) → Q (.ref p) H) : rIxL K (.ref a) (.int i) H Q := by
  obtain ⟨n, rfl⟩ : ∃ n : Nat, i = n := ⟨i.toNat, by omega⟩
  obtain ⟨p, r, e, hp, hr⟩ := R.at (i := n) (by omega)
  exact ⟨a, _, _, .ref p, rfl, rfl, h, atI_nat e, q p r hr hp⟩
theorem ixrowL (h : SqL K H a vs) (R : Rws g H vs rs) (h1 : 0 < rs.length) (q : ∀ p r, rs.getLast? = some r → H p = some (.tup ((g r).map V.int)) → Q (.ref p) H) : rIxL K (.ref a) (.int (-1)) H Q := by
  obtain ⟨p, r, e, hp, hr⟩ := R.at (i := rs.length - 1) (by omega)
  have hl := R.len
  rw [← List.getLast?_eq_getElem?] at hr
  rw [← hl, ← List.getLast?_eq_getElem?] at e
  refine ⟨a, _, _, .ref p, rfl, rfl, h, ?_, q p r hr hp⟩
  obtain ⟨ys, rfl⟩ := List.getLast?_eq_some_iff.mp e
  exact atI_last _ _
end
/-! ### slices -/
theorem cutV_take {xs : List V} {k : Int} (h : 0 ≤ k) : cutV xs none (some k) = xs.take k.toNat := by
  obtain ⟨n, rfl⟩ := Int.eq_ofNat_of_zero_le h
  unfold cutV
  rw [HT.sIx_none, HT.sIx_nat, List.drop_zero, Nat.sub_zero, Int.toNat_natCast]
  by_cases c : n ≤ xs.length
  · rw [Nat.min_eq_left c]
  · rw [Nat.min_eq_right (by omega), List.take_of_length_le (by omega), List.take_of_length_le (by omega)]
theorem cutV_drop {xs : List V} {k : Int} (h : 0 ≤ k) : cutV xs (some k) none = xs.drop k.toNat := by
  obtain ⟨n, rfl⟩ := Int.eq_ofNat_of_zero_le h
  unfold cutV
  rw [HT.sIx_none, HT.sIx_nat, Int.toNat_natCast]
  by_cases c : n ≤ xs.length
  · rw [Nat.min_eq_left c]
    exact List.take_of_length_le (by rw [List.length_drop]; exact Nat.le_refl _)
  · rw [Nat.min_eq_right (by omega), List.drop_of_length_le (Nat.le_refl _), List.drop_of_length_le (by omega), List.take_nil]
theorem cutV_init {xs : List V} : cutV xs none (some (-1)) = xs.dropLast := by
  unfold cutV
  rw [HT.sIx_none, List.drop_zero, Nat.sub_zero, List.dropLast_eq_take]
  congr 1
  unfold HT.sIx
  show (if (-1 : Int) < 0 then ((-1 : Int) + (xs.length : Int)).toNat else min (-1 : Int).toNat xs.length) = _
  rw [if_pos (by decide)]; omega
theorem cutV_last {xs : List V} : cutV xs (some (-1)) none = xs.drop (xs.length - 1) := by
  unfold cutV
  rw [HT.sIx_none]
  have : HT.sIx xs.length 0 (some (-1)) = xs.length - 1 := by
    unfold HT.sIx
    show (if (-1 : Int) < 0 then ((-1 : Int) + (xs.length : Int)).toNat else min (-1 : Int).toNat xs.length) = _
    rw [if_pos (by decide)]; omega
  rw [this]
  exact List.take_of_length_le (by rw [List.length_drop]; exact Nat.le_refl _)
section
variable {H : Hp} {p : Addr}
theorem sl_lit {xs ys : List V} {l u : Option Int} (h : cutV xs l u = ys) : upd H p (.lst (cutV xs l u)) p = some (.lst ys) := by rw [upd_same, h]
theorem sl_take {xs : List Int} {k : Int} (h : 0 ≤ k) : upd H p (.lst (cutV (xs.map V.int) none (some k))) p = some (.lst ((xs.take k.toNat).map V.int)) := by
  rw [upd_same, cutV_take h, List.map_take]
theorem sl_drop {xs : List Int} {k : Int} (h : 0 ≤ k) : upd H p (.lst (cutV (xs.map V.int) (some k) none)) p = some (.lst ((xs.drop k.toNat).map V.int)) := by
  rw [upd_same, cutV_drop h, List.map_drop]
theorem sl_init {xs : List Int} : upd H p (.lst (cutV (xs.map V.int) none (some (-1)))) p = some (.lst (xs.dropLast.map V.int)) := by
  rw [upd_same, cutV_init, List.map_dropLast]
theorem sl_last {xs : List Int} : upd H p (.lst (cutV (xs.map V.int) (some (-1)) none)) p = some (.lst ((xs.drop (xs.length - 1)).map V.int)) := by
  rw [upd_same, cutV_last, List.length_map, List.map_drop]
theorem sl_rev {xs : List Int} : upd H p (.lst (xs.map V.int).reverse) p = some (.lst (xs.reverse.map V.int)) := by
  rw [upd_same, List.map_reverse]
theorem slv_take {xs : List V} {k : Int} (h : 0 ≤ k) : upd H p (.lst (cutV xs none (some k))) p = some (.lst (xs.take k.toNat)) := by rw [upd_same, cutV_take h]
theorem slv_drop {xs : List V} {k : Int} (h : 0 ≤ k) : upd H p (.lst (cutV xs (some k) none)) p = some (.lst (xs.drop k.toNat)) := by rw [upd_same, cutV_drop h]
theorem slv_init {xs : List V} : upd H p (.lst (cutV xs none (some (-1)))) p = some (.lst xs.dropLast) := by rw [upd_same, cutV_init]
theorem rep1_at {x k : Int} : upd H p (.lst (List.replicate k.toNat [V.int x]).flatten) p = some (.lst ((List.replicate k.toNat x).map V.int)) := by
  rw [upd_same]
  generalize k.toNat = n
  congr 2
  induction n with
  | zero => rfl
  | succ n ih => rw [List.replicate_succ, List.flatten_cons, ih]; rfl
theorem repn_at {xs : List Int} {k : Int} : upd H p (.lst (List.replicate k.toNat (xs.map V.int)).flatten) p = some (.lst ((List.replicate k.toNat xs).flatten.map V.int)) := by
  rw [upd_same]
  generalize k.toNat = n
  congr 2
  induction n with
  | zero => rfl
  | succ n ih => rw [List.replicate_succ, List.replicate_succ, List.flatten_cons, List.flatten_cons, ih, List.map_append]
end
/-! ### draws -/
inductive Drw : List Int → List Int → Prop
  | nil : Drw [] []
  | cons {r m : Int} {rs ms : List Int} : 0 ≤ r → r < m → Drw rs ms → Drw (r :: rs) (m :: ms)
theorem Drw.snoc {rs ms : List Int} {r m : Int} (h : Drw rs ms) (h0 : 0 ≤ r) (h1 : r < m) : Drw (rs ++ [r]) (ms ++ [m]) := by
  induction h with
  | nil => exact .cons h0 h1 .nil
  | cons a b _ ih => exact .cons a b ih
theorem Drw.turn {rs ms : List Int} {r m : Int} {i : Nat} (h : Drw rs (List.take i ms)) (hm : ms[i]? = some m) (h0 : 0 ≤ r) (h1 : r < m) : Drw (rs ++ [r]) (List.take (i + 1) ms) := by
  rw [List.take_add_one, hm]; exact h.snoc h0 h1
theorem Drw.len {rs ms : List Int} (h : Drw rs ms) : rs.length = ms.length := by
  induction h with
  | nil => rfl
  | cons _ _ _ ih => rw [List.length_cons, List.length_cons, ih]
theorem Drw.get {rs ms : List Int} {j : Nat} {m : Int} (h : Drw rs ms) (hm : ms[j]? = some m) : ∃ r, rs[j]? = some r ∧ 0 ≤ r ∧ r < m := by
  induction h generalizing j with
  | nil => cases hm
  | cons a b _ ih => cases j with
    | zero => cases hm; exact ⟨_, rfl, a, b⟩
    | succ j => exact ih hm
theorem Drw.bnd {rs ms : List Int} {j : Nat} {r : Int} (h : Drw rs ms) (hr : rs[j]? = some r) : ∃ m, ms[j]? = some m ∧ 0 ≤ r ∧ r < m := by
  have hl : j < ms.length := by rw [← h.len]; exact (List.getElem?_eq_some_iff.mp hr).1
  obtain ⟨r', e, a, b⟩ := h.get (List.getElem?_eq_getElem hl)
  rw [hr] at e; cases e
  exact ⟨_, List.getElem?_eq_getElem hl, a, b⟩
theorem Drw.all {rs ms : List Int} {i : Nat} (h : Drw rs (List.take i ms)) (e : i = (ms.map V.int).length) : Drw rs ms := by
  rw [List.length_map] at e; rw [e, List.take_length] at h; exact h
section
variable {K : PySem.W.Frag} {H : Hp} {Q : VK} {a : Addr}
theorem ixd {rs ms : List Int} {j : Nat} {m : Int} (h : SqL K H a (rs.map V.int)) (hd : Drw rs ms) (hm : ms[j]? = some m) (q : ∀ y, rs[j]? = some y → (0 ≤ y ∧ y < m) → Q (.int y) H) : rIxL K (.ref a) (.int j) H Q := by
  obtain ⟨r, e, b⟩ := hd.get hm
  refine ⟨a, _, _, .int r, rfl, rfl, h, atI_nat ?_, q r e b⟩
  rw [List.getElem?_map, e]; rfl
theorem gdown {n i : Nat} {lo : Int} {σ : L2.St} {R : L2.St → Hp → Prop} (h : ∀ x : Int, x = lo - (i : Int) → gName n (.int x) σ H R) : gName n (.int (lo + (i : Int) * (-1))) σ H R := h _ (by omega)
theorem gup {n i : Nat} {lo : Int} {σ : L2.St} {R : L2.St → Hp → Prop} (h : ∀ x : Int, x = lo + (i : Int) → gName n (.int x) σ H R) : gName n (.int (lo + (i : Int))) σ H R := h _ rfl
end
theorem bor_add {o a b : Int} {n : Nat} (h : o = Builtin.bitOr (a * 2 ^ n) b) (h0 : 0 ≤ a) (b0 : 0 ≤ b) (b1 : b < 2 ^ n) : o = a * 2 ^ n + b := by
  obtain ⟨x, rfl⟩ := Int.eq_ofNat_of_zero_le h0
  obtain ⟨y, rfl⟩ := Int.eq_ofNat_of_zero_le b0
  have e : (x : Int) * 2 ^ n = ((2 ^ n * x : Nat) : Int) := by rw [Int.natCast_mul, Int.natCast_pow, Int.mul_comm]; rfl
  have hy : y < 2 ^ n := by exact_mod_cast b1
  rw [h, e, bitOr_nn (Int.natCast_nonneg _) (Int.natCast_nonneg _), Int.toNat_natCast, Int.toNat_natCast, ← Nat.two_pow_add_eq_or_of_lt hy, Int.natCast_add]
theorem or2 {o a b s : Int} (h : o = Builtin.bitOr s b) (hs : s = a * 2) (h0 : 0 ≤ a) (b0 : 0 ≤ b) (b1 : b < 2) : o = 2 * a + b := by
  have g := bor_add (n := 1) (a := a) (b := b) (o := o) (by rw [h, hs]; rfl) h0 b0 (by omega)
  omega

theorem ixN_last {n : Nat} (h : 0 < n) : ixN n (-1) = some (n - 1) := by
  unfold ixN
  rw [if_neg (by decide)]
  by_cases c : -(n : Int) ≤ -1
  · simp [c]; omega
  · omega
theorem set_last {a : Addr} {H : Hp} {xs : List Int} {e : Int} (h : H a = some (.lst ((xs.map V.int).set ((xs.map V.int).length - 1) (.int e)))) : H a = some (.lst ((xs.set (xs.length - 1) e).map V.int)) := by
  rw [List.length_map] at h
  rw [List.map_set]; exact h

theorem op_subB {X : Cx} : OpR X (binaryOp .Sub) (fun x y H Q => ∃ p q, x = .bl p ∧ y = .bl q ∧ ∀ a b : Int, ((a = 1 ∧ p = true) ∨ (a = 0 ∧ p = false)) → ((b = 1 ∧ q = true) ∨ (b = 0 ∧ q = false)) → Q (.int (a - b)) H) := by
  intro pins s σ H x y v u Q I rx ry h
  obtain ⟨p, q, rfl, rfl, hq⟩ := h
  cases rx
  cases ry
  refine PyProof.Rows.sub_bool ⟨.int _, H, I.tok _, ⟨_, rfl⟩, hq _ _ ?_ ?_⟩
  · cases p <;> simp [PyProof.Rows.b2i]
  · cases q <;> simp [PyProof.Rows.b2i]
theorem op_xor1 {X : Cx} : OpR X (binaryOp .BitXor) (fun x y H Q => ∃ i, x = .int i ∧ y = .int 1 ∧ 0 ≤ i ∧ ∀ r, r / 2 = i / 2 → 0 ≤ r → Q (.int r) H) := by
  intro pins s σ H x y v u Q I rx ry h
  obtain ⟨i, rfl, rfl, h0, q⟩ := h
  refine op_xor pins s σ H _ _ v u Q I rx ry ⟨i, 1, rfl, rfl, q _ ?_ (Bits.bitXor_nonneg h0 (by decide))⟩
  rw [Bits.bitXor_pp h0 (by decide)]
  obtain ⟨n, rfl⟩ := Int.eq_ofNat_of_zero_le h0
  rw [Int.toNat_natCast]
  have e : (n ^^^ (1 : Int).toNat) / 2 = n / 2 := by rw [Nat.xor_div_two]; simp
  omega

theorem ixN_int {n : Nat} {i : Int} (h : i < (n : Int)) (h0 : 0 ≤ i) : ixN n i = some i.toNat := by
  unfold ixN
  rw [if_pos h0, if_pos h]
theorem set_mix {a : Addr} {H : Hp} {xs : List Int} {v : V} {i : Int} (hl : 0 ≤ i ∧ i < xs.length) (h : H a = some (.lst ((xs.map V.int).set i.toNat v))) : H a = some (.lst ((xs.take i.toNat).map V.int ++ v :: (xs.drop (i.toNat + 1)).map V.int)) := by
  rw [h, List.set_eq_take_append_cons_drop, if_pos (by rw [List.length_map]; omega), List.map_take, List.map_drop]
theorem mix_get {ps : List Int} {v x : V} {rest : List V} {i : Nat} (hi : i ≤ ps.length) (h : (ps.map V.int ++ v :: rest)[i]? = some x) : (∃ n, x = .int n ∧ ps[i]? = some n) ∨ (x = v ∧ i = ps.length) := by
  by_cases c : i < ps.length
  · rw [List.getElem?_append_left (by rw [List.length_map]; exact c)] at h
    exact .inl (ints_get h)
  · have e : i = ps.length := by omega
    rw [List.getElem?_append_right (by rw [List.length_map]; omega), List.length_map, e, Nat.sub_self] at h
    exact .inr ⟨(Option.some.inj h).symm, e⟩
theorem mix_end {ps : List Int} {v : V} {rest : List V} (h : (ps.map V.int ++ v :: rest).length ≤ ps.length) : False := by
  rw [List.length_append, List.length_map, List.length_cons] at h; omega

end Ow
namespace Ow
open PySem L2

section
variable {X : Cx} {e : Expr} {es : List Expr} {ta : TA} {b : Str} {B : Addr} {mc : Value} {p1 p2 pos : Pos}
open PyProof.Rows PySem.Spec in
/-- B.__init__(self, ..), B an own class whose __init__ is ValueError's -/
theorem pe_winit {pl : Sem Bool} (hg : Gl X b) (hm : X.mg b = some (.ref B)) (rd : ClX.CRead X.K B mc) (cv : PySem.W.findCls X.K (.ref B) mc "__init__" = some (.val (.builtin "ValueError.__init__"))) (ha : PA X (e :: es) ta)
    (hdb : (b == ("__debug__" : Str)) = false := by decide)
    (hc : eval (.Call (.Attribute (.Name b p1) "__init__" p2) (e :: es) [] pos) X.env = (do
      let ov ← eval (.Name b p1) X.env
      standAt p2.atName
      let (f, first) ← holding [ov] (getMethod ov "__init__" pl)
      callWith pos f first (backTo pos (starEach (e :: es) X.env)) (backToKw pos (keywordEach [] X.env))) := by rfl)
    (he : starEach (e :: es) X.env = (false, eval e X.env) :: starEach es X.env := by rfl) (hpl : (backTo pos (starEach es X.env)).any (·.1) = false := by rfl) :
    PE X (.Call (.Attribute (.Name b p1) "__init__" p2) (e :: es) [] pos) (tVeI X.K ta) := by
  refine ⟨fun pins s σ H Q I h => ?_⟩
  refine PySem.W.methodCall_KW (ld_glob I hg hm ?_ hdb) hc
  refine PySem.W.method_cls I.kIn rd.ga (PySem.W.cls_value I.kIn rd.rd cv (by decide +kernel) ?_)
  show wpAny _ _ (callWith pos (Value.builtin "ValueError.__init__") [] (backTo pos (starEach (e :: es) X.env)) []) _ _ _
  refine PyProof.Rows.callWith_method1 (thn (ha.run pos pins _ σ H _ (I.tok _) h) fun us s1 ⟨vs, H1, I1, r1, a, C, ws, ev, hl, T, ea, q⟩ => ?_) he hpl
  subst ev
  cases r1 with
  | @cons _ u0 _ ur ra rw' =>
    obtain rfl : u0 = Value.ref a := ra
    have hlen : ur.length ≤ sizeLine := by
      rw [← Paired.length rw', sizeLine_eq]
      omega
    exact oinit_ok T I1 ea hlen fun s' J => ⟨.non, H1, J, rfl, q⟩
/-- C(), C's own __init__ keeping sp, no field stored -/
def tMkN (C : Addr) (sp : Sp) : L2.St → Hp → XK → Prop := fun σ H1 Q => ∀ a, H1 a = none → sp [.ref a] (upd H1 a (exo a C none))
  (fun v H2 => v = .non ∧ H2 a = some (exo a C none) ∧ Q (.ref C) none (del H2 a)) (fun _ _ _ => False)
open PyProof.Rows PySem.Spec in
theorem mk_endN {pins : List (Addr × Obj)} {σ : L2.St} {H1 H2 : Hp} {hp hp2 h2 : Heap} {g1 g2 : Array GenState} {d1 d2 : Drawn} {t1 t2 : Nat} {os1 os2 : OsState} {a C : Addr} (I1 : L2.Inv X pins σ H1 ⟨hp, g1, d1, t1, os1⟩)
    (ha : hp.objs.size ≤ a) (k : ∀ b o, hp.get? b = some o → hp2.get? b = some o) (un : Un (frs X.stack) [] (upd H1 a (exo a C none)) H2 hp2 h2) (hok : HOk X.prog X.w H2 h2) (ho : os2 = os1) (hb : AllBare g2)
    (ea : H2 a = some (exo a C none)) :
    ∃ (t0 : Addr) (G : Heap), L2.Inv X pins σ (del H2 a) ⟨G, g2, d2, t2, os2⟩ ∧ (∀ b o, G.get? b = some o → h2.get? b = some o) ∧ G.get? a = none ∧
      h2.get? a = some ({ cls := .ref C, dict := none, data := .fields #[.ref t0, .none, .none, .none, .bool false, .none] } : Obj) ∧ (del H2 a) a = none := by
  obtain ⟨t0, hoe⟩ := exo_at hok ea
  have hn : H1 a = none := I1.hok.fresh ha
  obtain ⟨G, g1', g2'⟩ := restrict h2 fun b => decide (b ≠ a)
  have gk : ∀ b, b ≠ a → G.get? b = h2.get? b := fun b hb => g1' b (decide_eq_true hb)
  have ge : G.get? a = none := g2' a (by simp)
  have nha : ∀ {b : Addr} {o : Obj}, hp.get? b = some o → b ≠ a := fun {b o} z => Nat.ne_of_lt (Nat.lt_of_lt_of_le (Heap.lt_size z) ha)
  have up : ∀ {b : Addr}, b ≠ a → H1 b = none → upd H1 a (exo a C none) b = none := fun {b} hb n => by rw [upd_ne hb]; exact n
  have U : Un (frs X.stack) [] H1 (del H2 a) hp G := {
    keep := fun b o z n hf hx => by
      rw [gk b (nha z)]
      exact un.keep b o (k b o z) (up (nha z) n) hf hx
    slot := fun b o z n hf hx => by
      rw [gk b (nha z)]
      exact un.slot b o (k b o z) (up (nha z) n) hf hx
    free := fun b o z n hx => by
      rw [del_ne (nha z)]
      exact un.free b o (k b o z) (up (nha z) n) hx
    there := fun b o z hx => by
      rw [gk b (nha z)]
      exact un.there b o (k b o z) hx
    tups := fun b xs z => by
      rw [del_ne (ne_of_none z hn)]
      exact un.tups b xs (by rw [upd_ne (ne_of_none z hn)]; exact z)
    frzs := fun b o v z => by
      rw [del_ne (ne_of_none z hn)]
      exact un.frzs b o v (by rw [upd_ne (ne_of_none z hn)]; exact z)
    tbls := fun b ps z => by
      rw [del_ne (ne_of_none z hn)]
      exact un.tbls b ps (by rw [upd_ne (ne_of_none z hn)]; exact z) }
  have hok3 : HOk X.prog X.w (del H2 a) G := fun b o z => by
    have hba : b ≠ a := fun e => by
      rw [e, del_same] at z
      cases z
    rw [del_ne hba] at z
    have noa : ∀ {c : Addr}, H2 c = some (.own b) → c ≠ a := fun {c} hc => at_ne ea hc exo_own
    exact (hok b o z).stay (fun c v hc y => by
        have hca : c ≠ a := by
          rcases hc with hc | hc
          · rw [hc]
            exact hba
          · exact noa hc
        rw [gk c hca]
        exact y)
      (fun c hc => by rw [del_ne (noa hc)]; exact hc) (fun c xs hc => by rw [del_ne (at_ne ea hc exo_tup)]; exact hc)
  have J : L2.Inv X pins σ (del H2 a) ⟨G, g2, d2, t2, os2⟩ := I1.call' (ch := []) ho U hok3 hb (fun b z => absurd z (by simp))
  refine ⟨t0, G, J, fun b o z => ?_, ge, hoe, del_same⟩
  by_cases hba : b = a
  · rw [hba, ge] at z
    cases z
  · exact (gk b hba).symm.trans z
open PyProof.Rows PySem.Spec in
theorem pmk_oexN {CX : CXT} {x : Str} {C fI : Addr} {k : Nat} {fd : FuncData} {ps : List Str} {sp : Sp} {p : Pos} (T : OexC X.K C) (iC : PySem.W.findIn X.K (.ref C) "__init__" = some (some (.ref fI))) (tI : PySem.W.typeIn X.K (.ref fI) = some (.type "function"))
    (F1 : FnOk X.prog X.w X.K X.mg X.base CX k fI fd ps sp) (hr : Room (k + 1) X.A) (hb : Binds X.K fd ps []) (hx : Passes CX X (fun _ _ _ => False)) (hg : Gl X x) (hm : X.mg x = some (.ref C))
    (hdb : (x == ("__debug__" : Str)) = false := by decide) :
    PMk X (.Call (.Name x p) [] [] pos) (tMkN C sp) := by
  intro pins s σ H Q I q1
  obtain ⟨nm, q, N, bs, bm, sn, sub, ab, col, dd, k0, k1, k2, k3, k5, hC, hbm⟩ := T.cls
  refine wpAny_Call_Name_kw (ld_glob I hg hm ?_ hdb)
  refine PySem.W.callWith_K0 I.kIn T.kC ?_
  show wpAny _ _ (call (.ref C) []) _ _ _
  obtain ⟨hp, g, dr, tk, os⟩ := s
  have hsz : hp.objs.size ≤ hp.objs.size + 1 := Nat.le_succ _
  have hn : H (hp.objs.size + 1) = none := I.hok.fresh hsz
  have hq := q1 (hp.objs.size + 1) hn
  have kk : ∀ b o, hp.get? b = some o → ((hp.push (PySem.W.kdv_tup [])).push (PySem.HandSPX.excO C hp.objs.size)).get? b = some o := fun b o e => Heap.get?_push_of_some _ (Heap.get?_push_of_some _ e)
  have hget : ((hp.push (PySem.W.kdv_tup [])).push (PySem.HandSPX.excO C hp.objs.size)).get? (hp.objs.size + 1) = some (PySem.HandSPX.excO C hp.objs.size) := by heap_get
  have I2 : L2.Inv X pins σ (upd H (hp.objs.size + 1) (exo (hp.objs.size + 1) C none)) ⟨(hp.push (PySem.W.kdv_tup [])).push (PySem.HandSPX.excO C hp.objs.size), g, dr, tk, os⟩ :=
    I.laid (t' := tk) (a := hp.objs.size + 1) (o := exo (hp.objs.size + 1) C none) (h' := (hp.push (PySem.W.kdv_tup [])).push (PySem.HandSPX.excO C hp.objs.size)) kk hsz (exo_ok hget)
  have r2 : Vals [V.ref (hp.objs.size + 1)] [Value.ref (hp.objs.size + 1)] := .cons rfl .nil
  have hl : ([Value.ref (hp.objs.size + 1)] : List Value).length = ps.length := by
    have e := r2.length
    rw [F1.len _ _ _ _ hq] at e
    exact e.symm
  refine wpAny_call (PySem.HandSPX.call_own F.excBase_ValueError (fun Y => PySem.HandSPX.refsVE_contains Y bm hbm) (I.kIn _ _ hC) (PySem.W.looks_findIn I.kIn iC) (fun self => PySem.W.bind_fn I.kIn self tI) (by simp)
    (codeAny_mono (F1.run _ X.stack _ _ ⟨[Value.ref (hp.objs.size + 1)], []⟩ ([Value.ref (hp.objs.size + 1)] ++ []) _ _ (fun _ _ _ => False) (hr.make C [] []) (I2.env0.make C [] []) (hb _ [Value.ref (hp.objs.size + 1)] I2.kIn hl) (r2.append .nil) hq) fun r s' hq' => ?_))
  cases r with
  | error er => exact hx pins σ _ _ er s' I2 hq'
  | ok fl =>
    cases fl with
    | ret u =>
      obtain ⟨v, H2, os2, bare2, un2, hok2, rv, ev, ea, q2⟩ := hq'
      subst ev
      obtain ⟨h2, g2, d2, t2, os'⟩ := s'
      refine ⟨rv, ?_⟩
      obtain ⟨t0, G, J, kG, ge, hoe, na⟩ := mk_endN (d2 := d2) (t2 := t2) I hsz kk un2 hok2 os2 bare2 ea
      exact ⟨hp.objs.size + 1, _, _, ⟨G, g2, d2, t2, os'⟩, _, .ref C, none, rfl, J, kG, ge, hoe, ⟨rfl, rfl⟩, rfl, rfl, na, rfl, bare2, raises_own T.exC T.tyC, q2⟩
    | next => exact False.elim hq'
    | brk => exact False.elim hq'
    | cont => exact False.elim hq'
end

theorem del_upd {H : Hp} {a : Addr} {o : HO} (h : H a = none) : del (upd H a o) a = H := by
  funext b
  by_cases hb : b = a
  · rw [hb, del_same, h]
  · rw [del_ne hb, upd_ne hb]
/-- isinstance of what the suite holds -/
theorem call_isE2 {X : Cx} {a : Addr} {oe : Obj} {cls : Value} {d : Option Addr} {pn : List (Addr × Obj)} (hz : Zc cls d oe) (hf : ∃ vs, oe.data = .fields vs) :
    CallR (X.suite a ((a, oe) :: pn)) (.builtin "isinstance") (fun xs H Q => ∃ (D C : Addr) (b : Bool), cls = .ref D ∧ d = none ∧ ExcC X.K D ∧ xs = [.ref a, .ref C] ∧ PySem.W.kitOne X.K (.ref D) (.ref C) = some b ∧ Q (.bl b) H) := by
  intro pins s σ H xs us Q I r h
  obtain ⟨D, C, b, rfl, rfl, E, rfl, hk, q⟩ := h
  exact call_isE E hz hf pins s σ H _ us Q I r ⟨.ref C, .ref C, b, rfl, fun u h => h, hk, q⟩
/-- isinstance of what the suite holds, a built-in class -/
theorem call_isET {X : Cx} {a : Addr} {oe : Obj} {cls : Value} {d : Option Addr} {pn : List (Addr × Obj)} (hz : Zc cls d oe) (hf : ∃ vs, oe.data = .fields vs) :
    CallR (X.suite a ((a, oe) :: pn)) (.builtin "isinstance") (fun xs H Q => ∃ (D : Addr) (n : String) (b : Bool), cls = .ref D ∧ d = none ∧ ExcC X.K D ∧ xs = [.ref a, .ty n] ∧ PySem.W.kitOne X.K (.ref D) (.type n) = some b ∧ Q (.bl b) H) := by
  intro pins s σ H xs us Q I r h
  obtain ⟨D, n, b, rfl, rfl, E, rfl, hk, q⟩ := h
  exact call_isE E hz hf pins s σ H _ us Q I r ⟨.ty n, .type n, b, rfl, fun u h => h, hk, q⟩
theorem kit_tyE {K : PySem.W.Frag} {D : Addr} {n : String} {b : Bool} (h1 : PySem.W.kitMeta n = true) (h4 : PySem.W.subIn K (.ref D) (.type n) = some b) : PySem.W.kitOne K (.ref D) (.type n) = some b := by
  unfold PySem.W.kitOne PySem.W.kitCls
  rw [if_neg (by intro h; cases h)]
  dsimp only
  rw [if_pos h1]
  exact h4
structure Xc (K : PySem.W.Frag) (mg : Str → Option Value) (x : Str) : Type where
  C : Addr
  m : mg x = some (.ref C)
  oex : OexC K C
  ex : ExcC K C
structure Bc (K : PySem.W.Frag) (mg : Str → Option Value) (x : Str) : Type where
  C : Addr
  m : mg x = some (.ref C)
  mc : Value
  rd : ClX.CRead K C mc
  cv : PySem.W.findCls K (.ref C) mc "__init__" = some (.val (.builtin "ValueError.__init__"))
structure Xi (K : PySem.W.Frag) (C : Addr) (qual : Str) (st : Stmt) (ps : List Str) : Type where
  f : Addr
  fd : FuncData
  F : Fun K "__init__" qual st f fd
  b : Binds K fd ps []
  iC : PySem.W.findIn K (.ref C) "__init__" = some (some (.ref f))
  tI : PySem.W.typeIn K (.ref f) = some (.type "function")

theorem kit_self {K : PySem.W.Frag} {t : Value} : PySem.W.kitOne K t t = some true := by
  unfold PySem.W.kitOne; rw [if_pos (beq_self_eq_true _)]
theorem kit_sub {K : PySem.W.Frag} {t : Value} {C : Addr} {b : Bool} (ne : (t == Value.ref C) = false) (h2 : PySem.W.isClsIn K C = true) (h3 : PySem.W.typeIn K (.ref C) = some (.type "type")) (h4 : PySem.W.subIn K t (.ref C) = some b) : PySem.W.kitOne K t (.ref C) = some b := by
  unfold PySem.W.kitOne PySem.W.kitCls
  have h2' : (PySem.W.clsIn K C).isSome = true := h2
  rw [if_neg (by rw [ne]; decide)]
  dsimp only
  rw [if_pos (by rw [h2', h3]; rfl)]
  exact h4

def tTryAs (K : PySem.W.Frag) (c : Value) (i : Nat) (tb : WX → TS) (ts : Addr → Value → Option Addr → TS) (Wout : WX) : TS := fun D σ H => tb (wAs K c i ts Wout D) D σ H
theorem ps_tryN {X : Cx} {x n : Str} {c : Value} {i : Nat} {body suite : List Stmt} {b₀ : Stmt} {np pos pos' : Pos} {tb : WX → TS} {ts : Addr → Value → Option Addr → TS} {Wout : WX}
    (hs : X.stack = X.env :: X.outer) (hf : X.env.frame = some X.env.locals) (hN : X.N.Nodup) (hi : X.N[i]? = some n) (hln : X.env.kindOf n = some .local) (hc : Names X x c) (tk : Takes X Wout)
    (hb : ∀ (W : WX) (pn : List (Addr × Obj)) (xe : Value → Shared → Prop), Takes (X.tr pn xe) W → PassesOwn (model X.prog X.w) X.A X.env xe → PSs (X.tr pn xe) body (tb W))
    (hsu : ∀ (a : Addr) (oe : Obj) (cls : Value) (d : Option Addr) (pn : List (Addr × Obj)), Zc cls d oe → (∃ vs, oe.data = .fields vs) → PSs (X.suite a ((a, oe) :: pn)) (b₀ :: suite) (ts a cls d)) :
    PS X (.Try body [.ExceptHandler (some (.Name x np)) (some n) (b₀ :: suite) pos'] [] [] pos) (tTryAs X.K c i tb ts Wout) := ps_try_as hs hf hN hi hln hc tk hb hsu

/-- C() of a class without any __init__ -/
structure Mk0 (K : PySem.W.Frag) (C : Addr) : Prop where
  makes : PySem.W.makesIn K C = true
  init : PySem.W.findIn K (.ref C) "__init__" = some (some (.builtin "object.__init__"))
  top : PySem.W.mroIn K C (.type "object") = some true
  kp : PySem.W.keepIn K (.ref C) = true
section
variable {X : Cx} {C : Addr} {x : Str} {p pos : Pos}
open PySem.W PySem.Calls PyProof.Rows NwA in
theorem run_make00 {pins : List (Addr × Obj)} {σ : L2.St} {H : Hp} {s : Shared} {Q : VK} (M : Mk0 X.K C) (I : L2.Inv X pins σ H s)
    (h : ∀ x dx, H x = Option.none → H dx = Option.none → dx ≠ x → Q (.ref x) (upd (upd H dx (.own x)) x (.ins C dx []))) : wpAny (model X.prog X.w) X.A (PySem.call (.ref C) []) (EP X pins σ Q) X.xe s := by
  have hq := h (s.heap.objs.size + 1) s.heap.objs.size (I.hok.fresh (Nat.le_succ _)) (I.hok.fresh (Nat.le_refl _)) (Nat.ne_of_lt (Nat.lt_succ_self _))
  have I2 := Inv.made (C := C) I
  refine wpAny_call (make_map0 I.kIn M.makes M.init (fun self => Looks.of_pure (oi_bind _)) ?_)
  have ho : ((s.heap.push PySem.W.emptyDict).push (PySem.W.instObj C s.heap.objs.size)).get? (s.heap.objs.size + 1) = some (PySem.W.instObj C s.heap.objs.size) := by
    have := Heap.get?_push_size (s.heap.push PySem.W.emptyDict) (o := PySem.W.instObj C s.heap.objs.size) rfl
    rwa [Heap.size_push] at this
  have t1 : Looks (model X.prog X.w) ((s.heap.push PySem.W.emptyDict).push (PySem.W.instObj C s.heap.objs.size)) (typeOf (.ref (s.heap.objs.size + 1))) (.ref C) := type_at ho rfl
  have t2 : Looks (model X.prog X.w) ((s.heap.push PySem.W.emptyDict).push (PySem.W.instObj C s.heap.objs.size)) (isInstance (.ref (s.heap.objs.size + 1)) (.type "object")) true := t1.andThen (looks_mroIn I2.kIn M.top)
  refine codeAny_call_builtin oi_plain entry_oi (@check_slot _ _ _ _ "object.__init__" "object" "__init__" (.ref (s.heap.objs.size + 1)) [] [] _ oi_kind oi_split t2 (oi_args_any _ [] []) ?_)
  rw [oi_run]
  exact wpAny_pure ⟨rfl, ⟨V.ref (s.heap.objs.size + 1), _, I2, rfl, hq⟩⟩
def tMake00 (C : Addr) : TE := fun _ H Q => ∀ x dx, H x = none → H dx = none → dx ≠ x → Q (.ref x) (upd (upd H dx (.own x)) x (.ins C dx []))
theorem pe_make00 (M : Mk0 X.K C) (hg : Gl X x) (hm : X.mg x = some (.ref C)) (hdb : (x == ("__debug__" : Str)) = false := by decide) : PE X (.Call (.Name x p) [] [] pos) (tMake00 C) := by
  refine ⟨fun pins s σ H Q I h => ?_⟩
  refine wpAny_Call_Name_kw (ld_glob I hg hm ?_ hdb)
  exact PySem.W.callWith_K0 I.kIn M.kp (run_make00 M I h)
/-- one of two readings -/
theorem pe_alt {e : Expr} {t u : TE} (h1 : PE X e t) (h2 : PE X e u) : PE X e (fun σ H Q => t σ H Q ∨ u σ H Q) :=
  ⟨fun pins s σ H Q I h => h.elim (h1.run pins s σ H Q I) (h2.run pins s σ H Q I)⟩
end

theorem free2 {H : Hp} {dx x : Addr} {o : HO} (hne : dx ≠ x) (hx : H x = none) : upd H dx o x = none := by rw [upd_ne (fun z => hne z.symm)]; exact hx
/-- a method of one of several classes -/
def MAlt (X : Cx) (CX : CXT) (m : Str) (C : Addr) (sp : Sp) : Prop :=
  ∃ f fd ps k, Cls X.K C ∧ Meth X.K C m f ∧ FnOk X.prog X.w X.K X.mg X.base CX k f fd ps sp ∧ Room k X.A ∧ Binds X.K fd ps []
def tMethA (R : Addr → Sp → Prop) (m : Str) (E : XK) (ta : TE) (t : TA) : TE := fun σ H Q => ta σ H fun x H1 => ∃ a dx fs C sp, x = .ref a ∧ R C sp ∧ H1 a = some (.ins C dx fs) ∧ fs.lookup m = none ∧ t σ H1 fun vs H2 => sp (.ref a :: vs) H2 Q E
section
variable {X : Cx} {CX : CXT} {E : XK} {R : Addr → Sp → Prop} {o e : Expr} {es : List Expr} {m : Str} {apos pos : Pos} {ta : TE} {t : TA}
theorem pe_methA {pl : Sem Bool} (he : PE X o ta) (hall : ∀ C sp, R C sp → MAlt X CX m C sp) (hx : Passes CX X E) (ha : PA X (e :: es) t)
    (hst : starEach (e :: es) X.env = (false, eval e X.env) :: starEach es X.env := by rfl) (hpl : (backTo pos (starEach es X.env)).any (·.1) = false := by rfl)
    (ht : eval (.Call (.Attribute o m apos) (e :: es) [] pos) X.env = (do
      let ov ← eval o X.env
      standAt apos.atName
      let (f, first) ← holding [ov] (getMethod ov m pl)
      callWith pos f first (backTo pos (starEach (e :: es) X.env)) (backToKw pos (keywordEach [] X.env))) := by rfl) :
    PE X (.Call (.Attribute o m apos) (e :: es) [] pos) (tMethA R m E ta t) := by
  refine ⟨fun pins s σ H Q I h => ?_⟩
  refine PySem.W.methodCall_KW (pl := pl) (thn (he.run pins s σ H _ I h) fun u s1 ⟨x, H1, I1, rx, a, dx, fs, C, sp, ex, hr, ea, l, q⟩ => ?_) ht
  obtain ⟨f, fd, ps, k, c, hm, F, hr, hb⟩ := hall C sp hr
  subst ex
  obtain rfl : u = Value.ref a := rx
  refine getmeth_ok I1 ea c hm l ?_
  refine PySem.W.callWith_K (first := [.ref a]) (h₀ := X.base) I.ok.mod.kin hm.kp (thn (ha.run pos pins s1 σ H1 _ I1 q) fun us s2 ⟨vs, H2, I2, r, q2⟩ => ⟨I2.kIn, ?_⟩) hst hpl
  exact run_fn (us := .ref a :: us) (vs := .ref a :: vs) F hr hb .nil hx I2 (.cons rfl r) (by rw [List.append_nil]; exact q2)
theorem pe_methA0 {pl : Sem Bool} (he : PE X o ta) (hall : ∀ C sp, R C sp → MAlt X CX m C sp) (hx : Passes CX X E)
    (ht : eval (.Call (.Attribute o m apos) [] [] pos) X.env = (do
      let ov ← eval o X.env
      standAt apos.atName
      let (f, first) ← holding [ov] (getMethod ov m pl)
      callWith pos f first (backTo pos (starEach [] X.env)) (backToKw pos (keywordEach [] X.env))) := by rfl) :
    PE X (.Call (.Attribute o m apos) [] [] pos) (tMethA R m E ta tNil) := by
  refine ⟨fun pins s σ H Q I h => ?_⟩
  refine PySem.W.methodCall_KW (pl := pl) (thn (he.run pins s σ H _ I h) fun u s1 ⟨x, H1, I1, rx, a, dx, fs, C, sp, ex, hr, ea, l, q⟩ => ?_) ht
  obtain ⟨f, fd, ps, k, c, hm, F, hr, hb⟩ := hall C sp hr
  subst ex
  obtain rfl : u = Value.ref a := rx
  refine getmeth_ok I1 ea c hm l ?_
  exact PySem.W.callWith_K0 (first := [.ref a]) I1.kIn hm.kp (run_fn (us := [.ref a]) (vs := [.ref a]) F hr hb .nil hx I1 (.cons rfl .nil) q)
end
theorem mal_one {X : Cx} {CX : CXT} {m : Str} {C0 : Addr} {sp0 : Sp} (h : MAlt X CX m C0 sp0) : ∀ C sp, (C = C0 ∧ sp = sp0) → MAlt X CX m C sp := by
  rintro _ _ ⟨rfl, rfl⟩; exact h
theorem mal_or {X : Cx} {CX : CXT} {m : Str} {R1 R2 : Addr → Sp → Prop} (h1 : ∀ C sp, R1 C sp → MAlt X CX m C sp) (h2 : ∀ C sp, R2 C sp → MAlt X CX m C sp) : ∀ C sp, (R1 C sp ∨ R2 C sp) → MAlt X CX m C sp :=
  fun C sp h => h.elim (h1 C sp) (h2 C sp)
/-- a class of the text whose instances are made -/
structure Kc (K : PySem.W.Frag) (mg : Str → Option Value) (x : Str) : Type where
  C : Addr
  m : mg x = some (.ref C)
  cl : Cls K C
structure Dm (K : PySem.W.Frag) (x qual : Str) (st : Stmt) (ps : List Str) : Type where
  f : Addr
  fd : FuncData
  F : Fun K x qual st f fd
  b : Binds K fd ps []
/-! ### C.f(self, ..), a def of an own class called by the class's name -/
section
variable {X : Cx} {CX : CXT} {k : Nat} {f B : Addr} {fd : FuncData} {ps : List Str} {sp : Sp} {E : XK} {b m : Str} {mc : Value} {p1 p2 pos : Pos} {e : Expr} {es : List Expr} {t : TA}
open PyProof.Rows PySem.Spec in
theorem pe_cdef {pl : Sem Bool} (hg : Gl X b) (hm : X.mg b = some (.ref B)) (rd : ClX.CRead X.K B mc) (cv : PySem.W.findCls X.K (.ref B) mc m = some (.val (.ref f))) (hk : PySem.W.keepIn X.K (.ref f) = true)
    (F : FnOk X.prog X.w X.K X.mg X.base CX k f fd ps sp) (hr : Room k X.A) (hb : Binds X.K fd ps []) (hx : Passes CX X E) (ha : PA X (e :: es) t)
    (hdb : (b == ("__debug__" : Str)) = false := by decide)
    (hc : eval (.Call (.Attribute (.Name b p1) m p2) (e :: es) [] pos) X.env = (do
      let ov ← eval (.Name b p1) X.env
      standAt p2.atName
      let (f, first) ← holding [ov] (getMethod ov m pl)
      callWith pos f first (backTo pos (starEach (e :: es) X.env)) (backToKw pos (keywordEach [] X.env))) := by rfl)
    (he : starEach (e :: es) X.env = (false, eval e X.env) :: starEach es X.env := by rfl) (hpl : (backTo pos (starEach es X.env)).any (·.1) = false := by rfl) :
    PE X (.Call (.Attribute (.Name b p1) m p2) (e :: es) [] pos) (tCall sp [] E t) := by
  refine ⟨fun pins s σ H Q I h => ?_⟩
  refine PySem.W.methodCall_KW (ld_glob I hg hm ?_ hdb) hc
  refine PySem.W.method_cls I.kIn rd.ga (PySem.W.cls_value I.kIn rd.rd cv rfl ?_)
  refine PySem.W.callWith_K (first := []) (h₀ := X.base) I.ok.mod.kin hk (thn (ha.run pos pins _ σ H _ (I.tok _) h) fun us s1 ⟨vs, H1, I1, r, q⟩ => ⟨I1.kIn, ?_⟩) he hpl
  exact run_fn F hr hb .nil hx I1 r q
end
/-- what C.f needs of C -/
structure Cc (K : PySem.W.Frag) (C : Addr) (m : Str) (f : Addr) : Type where
  mc : Value
  rd : ClX.CRead K C mc
  cv : PySem.W.findCls K (.ref C) mc m = some (.val (.ref f))

/-- isinstance of an instance of an own class -/
structure Ic (K : PySem.W.Frag) (C : Addr) : Prop where
  ha : PySem.W.findIn K (.ref C) "__class__" = some (some (.builtin "object.__class__"))
  hn : PySem.W.specialIn K (.builtin "object.__class__") "__get__" = some (some (.builtin "getset_descriptor.__get__"))
  ht : PySem.W.takesIn K (.builtin "object.__class__") = some true
  hm : PySem.W.mroIn K C (.type "object") = some true
theorem tyIns {K : PySem.W.Frag} {H : Hp} {a C dx : Addr} {fs : List (Str × V)} (cl : Cls K C) (i : Ic K C) (e : H a = some (.ins C dx fs)) : TyX K H (.ref a) (.ref C) := .base (.ins e cl i.ha i.hn i.ht i.hm)

end Ow
namespace Ow
open PySem L2
local macro_rules | `(tactic| walk_at "ob") => `(tactic| first | assumption | omega | exact ⟨by omega, by omega⟩ | exact ⟨by omega, by omega, by omega⟩ | exact Ow.divw64 (by omega) (by omega) | exact Or.inl ⟨by omega, by omega⟩ | exact Or.inr ⟨by omega, by omega⟩)
inductive F_Way where
  | Down
  | Up
  | Cut
  | Near
def wrd_Way : F_Way → Str
  | .Down => "down"
  | .Up => "up"
  | .Cut => "cut"
  | .Near => "near"

theorem gcd_abs {a b x y : Int} (hx : x = if a < 0 then -a else a) (hy : y = if b < 0 then -b else b) : Int.gcd x y = Int.gcd a b := by
  have e1 : x.natAbs = a.natAbs := by split at hx <;> omega
  have e2 : y.natAbs = b.natAbs := by split at hy <;> omega
  unfold Int.gcd; rw [e1, e2]
theorem gcd_step {a b r g : Int} (h : (Int.gcd a b : Int) = g) (h0 : 0 ≤ a) (h1 : 0 ≤ b) (hr : r = a % b) : (Int.gcd b r : Int) = g := by
  obtain ⟨m, rfl⟩ := Int.eq_ofNat_of_zero_le h0
  obtain ⟨n, rfl⟩ := Int.eq_ofNat_of_zero_le h1
  subst hr
  rw [← h]
  congr 1
  show Nat.gcd n (m % n) = Nat.gcd m n
  rw [Nat.gcd_comm m n, Nat.gcd_rec n m, Nat.gcd_comm]
theorem gcd_end {a b g : Int} (h : (Int.gcd a b : Int) = g) (h0 : 0 ≤ a) (hb : ¬ 0 < b) (h1 : 0 ≤ b) : a = g := by
  have : b = 0 := by omega
  subst this
  rw [← h, Int.gcd_zero]
  omega
theorem gcd_size {a b g : Int} {n : Nat} (hb : 0 < b) (hz : Sz n b) (hg : g = (Int.gcd a b : Int)) : 0 < g ∧ Sz n g := by
  have h0 : 0 < Int.gcd a b := Int.gcd_pos_iff.mpr (.inr (by omega))
  have h1 : g ≤ b := hg ▸ Int.le_of_dvd hb (Int.gcd_dvd_right ..)
  exact ⟨by omega, hz.le (by omega)⟩
/-- both by their greatest common divisor -/
theorem lows {t b g : Int} (hg : g = (Int.gcd t b : Int)) (hb : 0 < b) : 0 < g ∧ t = t / g * g ∧ b = b / g * g ∧ Int.gcd (t / g) (b / g) = 1 ∧ 0 < b / g := by
  have h0 : 0 < Int.gcd t b := Int.gcd_pos_iff.mpr (.inr (by omega))
  have g0 : 0 < g := by omega
  have d1 : g ∣ t := hg ▸ Int.gcd_dvd_left ..
  have d2 : g ∣ b := hg ▸ Int.gcd_dvd_right ..
  have e2 := Int.ediv_mul_cancel d2
  refine ⟨g0, (Int.ediv_mul_cancel d1).symm, e2.symm, ?_, ?_⟩
  · rw [Int.gcd_ediv d1 d2, hg, Int.natAbs_natCast, Nat.div_self h0]
  · by_cases h : 0 < b / g
    · exact h
    · have : b / g * g ≤ 0 := Int.mul_nonpos_of_nonpos_of_nonneg (by omega) (by omega)
      omega
theorem lowz {t b g c p q : Int} (hg : g = (Int.gcd t b : Int)) (hb : b ≠ 0) (hc : (0 < b ∧ c = g) ∨ (b < 0 ∧ c = 0 - g)) (hp : p = t.fdiv c) (hq : q = b.fdiv c) : p * b = t * q ∧ 0 < q ∧ Int.gcd p q = 1 ∧ p.natAbs ≤ t.natAbs ∧ q.natAbs ≤ b.natAbs := by
  have h0 : 0 < Int.gcd t b := Int.gcd_pos_iff.mpr (.inr hb)
  have g0 : 0 < g := by omega
  have d1 : g ∣ t := hg ▸ Int.gcd_dvd_left ..
  have d2 : g ∣ b := hg ▸ Int.gcd_dvd_right ..
  have c1 : c ∣ t := by rcases hc with ⟨_, rfl⟩ | ⟨_, rfl⟩; exact d1; rw [Int.zero_sub]; exact Int.neg_dvd.mpr d1
  have c2 : c ∣ b := by rcases hc with ⟨_, rfl⟩ | ⟨_, rfl⟩; exact d2; rw [Int.zero_sub]; exact Int.neg_dvd.mpr d2
  have e1 : p * c = t := by rw [hp]; exact Int.fdiv_mul_cancel c1
  have e2 : q * c = b := by rw [hq]; exact Int.fdiv_mul_cancel c2
  have cn : c.natAbs = Int.gcd t b := by omega
  have cp : 1 ≤ c.natAbs := by omega
  refine ⟨?_, ?_, ?_, by rw [← e1, Int.natAbs_mul]; exact Nat.le_mul_of_pos_right _ cp, by rw [← e2, Int.natAbs_mul]; exact Nat.le_mul_of_pos_right _ cp⟩
  · rw [← e1, ← e2, Int.mul_assoc p c q, Int.mul_comm c q]
  · rcases hc with ⟨h, e⟩ | ⟨h, e⟩
    · by_cases z : 0 < q
      · exact z
      · have : q * c ≤ 0 := Int.mul_nonpos_of_nonpos_of_nonneg (by omega) (by omega)
        omega
    · by_cases z : 0 < q
      · exact z
      · have : 0 ≤ q * c := Int.mul_nonneg_of_nonpos_of_nonpos (by omega) (by omega)
        omega
  · have e3 : Int.gcd t b = Int.gcd p q * c.natAbs := by rw [← e1, ← e2, Int.gcd_mul_right]
    rw [cn] at e3
    have := Nat.eq_of_mul_eq_mul_right h0 (show 1 * Int.gcd t b = Int.gcd p q * Int.gcd t b by omega)
    omega

theorem gcd_size0 {a b g : Int} {n : Nat} (hb : b ≠ 0) (hz : Sz n b) (hg : g = (Int.gcd a b : Int)) : 0 < g ∧ Sz n g := by
  have h0 : 0 < Int.gcd a b := Int.gcd_pos_iff.mpr (.inr hb)
  have h2 : Int.gcd a b = Int.gcd a b.natAbs := by simp [Int.gcd]
  have h1 : (Int.gcd a b.natAbs : Int) ≤ b.natAbs := Int.le_of_dvd (by omega) (Int.gcd_dvd_right ..)
  exact ⟨by omega, hz.le (by omega)⟩
/-- whether a quotient goes up by one -/
def adj (w : F_Way) (q r d : Int) (neg : Bool) : Bool := match w with
  | .Down => neg && decide (0 < r)
  | .Up => decide (0 < r) && !neg
  | .Cut => false
  | .Near => if r = d - r then decide (q % 2 = 1) else decide (d - r < r)
/-- what t / b is rounded to -/
def rnd (w : F_Way) (t b : Int) : Int :=
  if t < 0 then 0 - (if adj w ((-t) / b) ((-t) % b) b true = true then (-t) / b + 1 else (-t) / b)
  else (if adj w (t / b) (t % b) b false = true then t / b + 1 else t / b)
theorem rnd_neg {w : F_Way} {t b a q r : Int} {z : Bool} (h : t < 0) (ha : a = if t < 0 then -t else t) (hq : q = a / b) (hr : r = a % b) (hz : adj w q r b (decide (t < 0)) = z) : rnd w t b = 0 - (if z = true then q + 1 else q) := by
  rw [if_pos h] at ha
  rw [decide_eq_true h] at hz
  unfold rnd
  rw [if_pos h, ← ha, ← hq, ← hr, hz]
theorem rnd_pos {w : F_Way} {t b a q r : Int} {z : Bool} (h : ¬ t < 0) (ha : a = if t < 0 then -t else t) (hq : q = a / b) (hr : r = a % b) (hz : adj w q r b (decide (t < 0)) = z) : rnd w t b = if z = true then q + 1 else q := by
  rw [if_neg h] at ha
  rw [decide_eq_false h] at hz
  unfold rnd
  rw [if_neg h, ← ha, ← hq, ← hr, hz]
/-- where the rounded number lies -/
def Lies (w : F_Way) (t b f : Int) : Prop := match w with
  | .Down => -b < f * b - t ∧ f * b - t ≤ 0
  | .Up => 0 ≤ f * b - t ∧ f * b - t < b
  | .Cut => (0 ≤ t → -b < f * b - t ∧ f * b - t ≤ 0) ∧ (t < 0 → 0 ≤ f * b - t ∧ f * b - t < b)
  | .Near => (2 * (f * b - t) < b ∧ 2 * (t - f * b) < b) ∨ ((2 * (f * b - t) = b ∨ 2 * (t - f * b) = b) ∧ f % 2 = 0)
theorem lies {w : F_Way} {t b : Int} (hb : 0 < b) : Lies w t b (rnd w t b) := by
  unfold rnd
  by_cases h : t < 0
  · rw [if_pos h]
    have e := Int.ediv_mul_add_emod (-t) b
    have r0 := Int.emod_nonneg (-t) (show b ≠ 0 by omega)
    have r1 := Int.emod_lt_of_pos (-t) hb
    generalize (-t) / b = q at *
    generalize (-t) % b = r at *
    have m1 : (0 - (q + 1)) * b = -(q * b) - b := by rw [Int.sub_mul, Int.add_mul]; omega
    have m2 : (0 - q) * b = -(q * b) := by rw [Int.sub_mul]; omega
    cases w <;> unfold adj Lies
    · by_cases hr : 0 < r
      · simp only [hr, decide_true, Bool.and_self, if_true, m1]; omega
      · simp only [hr, decide_false, Bool.and_false, Bool.false_eq_true, if_false, m2]; omega
    · simp only [Bool.not_true, Bool.and_false, Bool.false_eq_true, if_false, m2]; omega
    · simp only [Bool.false_eq_true, if_false, m2]; omega
    · by_cases h1 : r = b - r
      · rw [if_pos h1]
        by_cases h2 : q % 2 = 1
        · simp only [h2, decide_true, if_true, m1]; omega
        · simp only [h2, decide_false, Bool.false_eq_true, if_false, m2]; omega
      · rw [if_neg h1]
        by_cases h2 : b - r < r
        · simp only [h2, decide_true, if_true, m1]; omega
        · simp only [h2, decide_false, Bool.false_eq_true, if_false, m2]; omega
  · rw [if_neg h]
    have e := Int.ediv_mul_add_emod t b
    have r0 := Int.emod_nonneg t (show b ≠ 0 by omega)
    have r1 := Int.emod_lt_of_pos t hb
    generalize t / b = q at *
    generalize t % b = r at *
    have m1 : (q + 1) * b = q * b + b := by rw [Int.add_mul]; omega
    cases w <;> unfold adj Lies
    · simp only [Bool.false_and, Bool.false_eq_true, if_false]; omega
    · by_cases hr : 0 < r
      · simp only [hr, decide_true, Bool.not_false, Bool.and_self, if_true, m1]; omega
      · simp only [hr, decide_false, Bool.false_and, Bool.false_eq_true, if_false]; omega
    · simp only [Bool.false_eq_true, if_false]; omega
    · by_cases h1 : r = b - r
      · rw [if_pos h1]
        by_cases h2 : q % 2 = 1
        · simp only [h2, decide_true, if_true, m1]; omega
        · simp only [h2, decide_false, Bool.false_eq_true, if_false]; omega
      · rw [if_neg h1]
        by_cases h2 : b - r < r
        · simp only [h2, decide_true, if_true, m1]; omega
        · simp only [h2, decide_false, Bool.false_eq_true, if_false]; omega
theorem adj_scale {w : F_Way} {q r d m : Int} {n : Bool} (hm : 0 < m) : adj w q (r * m) (d * m) n = adj w q r d n := by
  have e1 : (0 < r * m) ↔ (0 < r) := by
    constructor
    · intro h
      by_cases z : 0 < r
      · exact z
      · have := Int.mul_nonpos_of_nonpos_of_nonneg (show r ≤ 0 by omega) (show 0 ≤ m by omega)
        omega
    · intro h; exact Int.mul_pos h hm
  have e2 : (r * m = d * m - r * m) ↔ (r = d - r) := by
    rw [← Int.sub_mul]
    constructor
    · intro h; exact Int.eq_of_mul_eq_mul_right (by omega) h
    · intro h; rw [← h]
  have e3 : (d * m - r * m < r * m) ↔ (d - r < r) := by
    rw [← Int.sub_mul]
    constructor
    · intro h; exact Int.lt_of_mul_lt_mul_right h (by omega)
    · intro h; exact Int.mul_lt_mul_of_pos_right h hm
  cases w <;> unfold adj
  · rw [decide_eq_decide.mpr e1]
  · rw [decide_eq_decide.mpr e1]
  · rfl
  · by_cases h : r = d - r
    · rw [if_pos h, if_pos (e2.mpr h)]
    · rw [if_neg h, if_neg (fun z => h (e2.mp z)), decide_eq_decide.mpr e3]
theorem rnd_scale {w : F_Way} {t b m : Int} (hb : 0 < b) (hm : 0 < m) : rnd w (t * m) (b * m) = rnd w t b := by
  have e1 : ∀ a : Int, a * m / (b * m) = a / b := fun a => Int.mul_ediv_mul_of_pos_left a b hm
  have e2 : ∀ a : Int, a * m % (b * m) = a % b * m := fun a => by rw [Int.mul_comm a m, Int.mul_comm b m, Int.mul_emod_mul_of_pos _ _ hm, Int.mul_comm]
  have e3 : (t * m < 0) ↔ (t < 0) := by
    constructor
    · intro h
      by_cases z : t < 0
      · exact z
      · have := Int.mul_nonneg (show 0 ≤ t by omega) (show 0 ≤ m by omega)
        omega
    · intro h; exact Int.mul_neg_of_neg_of_pos h hm
  unfold rnd
  by_cases h : t < 0
  · rw [if_pos h, if_pos (e3.mpr h), ← Int.neg_mul, e1, e2, adj_scale hm]
  · rw [if_neg h, if_neg (fun z => h (e3.mp z)), e1, e2, adj_scale hm]

abbrev Rw := List (Int × Int)
def fP : List (Int × Int) → Int | [] => 1 | r :: rs => r.2 * fP rs
def fT : List (Int × Int) → Int | [] => 0 | r :: rs => r.1 * fP rs + r.2 * fT rs
def FrOk (rs : List (Int × Int)) : Prop := ∀ r ∈ rs, -(2 ^ 31) ≤ r.1 ∧ r.1 ≤ 2 ^ 31 ∧ 1 ≤ r.2 ∧ r.2 ≤ 1024 ∧ Int.gcd r.1 r.2 = 1
/-- p / q is the sum, in lowest terms -/
def Fr (rs : List (Int × Int)) (p q : Int) : Prop := p * fP rs = fT rs * q ∧ 0 < q ∧ Int.gcd p q = 1
theorem FrOk.take {rs : List (Int × Int)} (h : FrOk rs) (n : Nat) : FrOk (rs.take n) := fun r hr => h r (List.mem_of_mem_take hr)
theorem FrOk.drop {rs : List (Int × Int)} (h : FrOk rs) (n : Nat) : FrOk (rs.drop n) := fun r hr => h r (List.mem_of_mem_drop hr)
theorem FrOk.rev {rs : List (Int × Int)} (h : FrOk rs) : FrOk rs.reverse := fun r hr => h r (List.mem_reverse.mp hr)
theorem FrOk.get {rs : List (Int × Int)} {i : Nat} {r : Int × Int} (h : FrOk rs) (e : rs[i]? = some r) : -(2 ^ 31) ≤ r.1 ∧ r.1 ≤ 2 ^ 31 ∧ 1 ≤ r.2 ∧ r.2 ≤ 1024 ∧ Int.gcd r.1 r.2 = 1 := h r (List.mem_of_getElem? e)
theorem FrOk.nil : FrOk [] := fun _ h => by cases h
theorem FrOk.snoc {rs : List (Int × Int)} {r : Int × Int} (h : FrOk rs) (h1 : -(2 ^ 31) ≤ r.1 ∧ r.1 ≤ 2 ^ 31 ∧ 1 ≤ r.2 ∧ r.2 ≤ 1024 ∧ Int.gcd r.1 r.2 = 1) : FrOk (rs ++ [r]) := fun x hx => by
  rcases List.mem_append.mp hx with z | z
  · exact h x z
  · rw [List.mem_singleton.mp z]; exact h1
theorem fP_app : ∀ xs ys : List (Int × Int), fP (xs ++ ys) = fP xs * fP ys
  | [], ys => by simp [fP]
  | r :: xs, ys => by rw [List.cons_append, fP, fP, fP_app xs ys, Int.mul_assoc]
theorem fT_app : ∀ xs ys : List (Int × Int), fT (xs ++ ys) = fT xs * fP ys + fT ys * fP xs
  | [], ys => by simp [fP, fT]
  | r :: xs, ys => by
    rw [List.cons_append, fT, fT, fP, fP_app, fT_app xs ys, Int.add_mul, Int.mul_add, Int.mul_assoc, Int.mul_assoc, Int.add_assoc]
    congr 2
    rw [Int.mul_left_comm]
theorem fP_snoc (rs : List (Int × Int)) (r : Int × Int) : fP (rs ++ [r]) = fP rs * r.2 := by rw [fP_app]; simp [fP]
theorem fT_snoc (rs : List (Int × Int)) (r : Int × Int) : fT (rs ++ [r]) = fT rs * r.2 + r.1 * fP rs := by rw [fT_app]; simp [fP, fT]
theorem fP_pos : ∀ {rs : List (Int × Int)}, FrOk rs → 0 < fP rs
  | [], _ => by decide
  | r :: rs, h => by
    have h1 := h r (List.mem_cons_self ..)
    exact Int.mul_pos (by omega) (fP_pos (rs := rs) fun x hx => h x (List.mem_cons_of_mem _ hx))
theorem fP_rev : ∀ rs : List (Int × Int), fP rs.reverse = fP rs
  | [] => rfl
  | r :: rs => by rw [List.reverse_cons, fP_app, fP_rev rs, fP, fP, fP, Int.mul_one, Int.mul_comm]
theorem fT_rev : ∀ rs : List (Int × Int), fT rs.reverse = fT rs
  | [] => rfl
  | r :: rs => by
    rw [List.reverse_cons, fT_snoc, fT_rev rs, fP_rev, fT, Int.mul_comm (fT rs), Int.add_comm]
theorem take_snoc2 {rs : List (Int × Int)} {i : Nat} {r : Int × Int} (h : rs[i]? = some r) : rs.take (i + 1) = rs.take i ++ [r] := by
  rw [List.take_add_one, h]; rfl
/-- a sum of two fractions -/
theorem add_fr {P1 T1 P2 T2 p1 q1 p2 q2 p q : Int} (h1 : p1 * P1 = T1 * q1) (h2 : p2 * P2 = T2 * q2) (q1p : 0 < q1) (q2p : 0 < q2) (h : p * (q1 * q2) = (p1 * q2 + p2 * q1) * q) : p * (P1 * P2) = (T1 * P2 + T2 * P1) * q := by
  have e : (q1 * q2) * (p * (P1 * P2)) = (q1 * q2) * ((T1 * P2 + T2 * P1) * q) := by
    calc (q1 * q2) * (p * (P1 * P2)) = p * (q1 * q2) * (P1 * P2) := by rw [Int.mul_left_comm, ← Int.mul_assoc]
      _ = (p1 * q2 + p2 * q1) * q * (P1 * P2) := by rw [h]
      _ = ((p1 * P1) * (q2 * P2) + (p2 * P2) * (q1 * P1)) * q := by
          rw [Int.mul_right_comm _ q, Int.add_mul]
          congr 2
          · rw [Int.mul_assoc, Int.mul_assoc, Int.mul_left_comm q2]
          · rw [Int.mul_assoc, Int.mul_assoc, Int.mul_comm P1 P2, Int.mul_left_comm q1]
      _ = ((T1 * q1) * (q2 * P2) + (T2 * q2) * (q1 * P1)) * q := by rw [h1, h2]
      _ = (q1 * q2) * ((T1 * P2 + T2 * P1) * q) := by
          rw [← Int.mul_assoc (q1 * q2), Int.mul_add]
          congr 2
          · rw [Int.mul_comm T1, Int.mul_assoc q1, Int.mul_left_comm T1, ← Int.mul_assoc q1]
          · rw [Int.mul_comm T2, Int.mul_comm q1 q2, Int.mul_assoc q2, Int.mul_left_comm T2, ← Int.mul_assoc q2]
  exact Int.eq_of_mul_eq_mul_left (Int.ne_of_gt (Int.mul_pos q1p q2p)) e
theorem Fr.one {r : Int × Int} (h : Int.gcd r.1 r.2 = 1) (h2 : 1 ≤ r.2) : Fr [r] r.1 r.2 := ⟨by simp [fP, fT], by omega, h⟩
theorem Fr.nil : Fr [] 0 1 := ⟨by simp [fP, fT], by decide, by decide⟩
theorem Fr.app {xs ys : List (Int × Int)} {p1 q1 p2 q2 p q : Int} (h1 : Fr xs p1 q1) (h2 : Fr ys p2 q2) (h : p * (q1 * q2) = (p1 * q2 + p2 * q1) * q) (q0 : 0 < q) (g : Int.gcd p q = 1) : Fr (xs ++ ys) p q :=
  ⟨by rw [fP_app, fT_app]; exact add_fr h1.1 h2.1 h1.2.1 h2.2.1 h, q0, g⟩
theorem Fr.turn {rs : List (Int × Int)} {i : Nat} {r : Int × Int} {p1 q1 p q : Int} (hr : rs[i]? = some r) (hg : 1 ≤ r.2 ∧ Int.gcd r.1 r.2 = 1) (h1 : Fr (rs.take i) p1 q1) (h : p * (q1 * r.2) = (p1 * r.2 + r.1 * q1) * q) (q0 : 0 < q) (g : Int.gcd p q = 1) : Fr (rs.take (i + 1)) p q := by
  rw [take_snoc2 hr]; exact Fr.app h1 (Fr.one hg.2 hg.1) h q0 g
theorem Fr.back {rs : List (Int × Int)} {i : Nat} {r : Int × Int} {p1 q1 p q : Int} (hr : rs[i]? = some r) (hg : 1 ≤ r.2 ∧ Int.gcd r.1 r.2 = 1) (h1 : Fr (rs.take i) p1 q1) (h : p * (r.2 * q1) = (r.1 * q1 + p1 * r.2) * q) (q0 : 0 < q) (g : Int.gcd p q = 1) : Fr (rs.take (i + 1)) p q :=
  Fr.turn hr hg h1 (by rw [Int.mul_comm q1, h, Int.add_comm]) q0 g
theorem dvd_cop {q p P : Int} (h : q ∣ p * P) (g : Int.gcd p q = 1) : q ∣ P := by
  have h1 : q.natAbs ∣ p.natAbs * P.natAbs := by rw [← Int.natAbs_mul]; exact Int.natAbs_dvd_natAbs.mpr h
  have g1 : Nat.Coprime q.natAbs p.natAbs := by rw [Nat.coprime_comm]; exact g
  exact Int.natAbs_dvd_natAbs.mp (g1.dvd_of_dvd_mul_left h1)
theorem cop_dvd {p q P T : Int} (h : p * P = T * q) (g : Int.gcd p q = 1) : q ∣ P := by
  have h1 : q ∣ p * P := ⟨T, by rw [h, Int.mul_comm]⟩
  exact dvd_cop h1 g
theorem Fr.uniq {p q p' q' P T : Int} (hP : 0 < P) (h : p * P = T * q ∧ 0 < q ∧ Int.gcd p q = 1) (h' : p' * P = T * q' ∧ 0 < q' ∧ Int.gcd p' q' = 1) : p = p' ∧ q = q' := by
  have e : p * q' = p' * q := by
    have : P * (p * q') = P * (p' * q) := by
      rw [Int.mul_left_comm, ← Int.mul_assoc, h.1, Int.mul_left_comm P, ← Int.mul_assoc, h'.1, Int.mul_right_comm]
    exact Int.eq_of_mul_eq_mul_left (by omega) this
  have d1 : q ∣ q' := by
    have : q ∣ p * q' := ⟨p', by rw [e, Int.mul_comm]⟩
    exact dvd_cop this h.2.2
  have d2 : q' ∣ q := by
    have : q' ∣ p' * q := ⟨p, by rw [← e, Int.mul_comm]⟩
    exact dvd_cop this h'.2.2
  have eq : q = q' := Int.le_antisymm (Int.le_of_dvd h'.2.1 d1) (Int.le_of_dvd h.2.1 d2)
  subst eq
  exact ⟨Int.eq_of_mul_eq_mul_right (by omega) e, rfl⟩
theorem Fr.same {rs : List (Int × Int)} {p q p' q' : Int} (ho : FrOk rs) (h : Fr rs p q) (h' : Fr rs p' q') : p = p' ∧ q = q' := Fr.uniq (fP_pos ho) h h'
theorem Fr.rev {rs : List (Int × Int)} {p q : Int} (h : Fr rs.reverse p q) : Fr rs p q := by unfold Fr at *; rw [fP_rev, fT_rev] at h; exact h
/-! sizes -/
theorem fP_le : ∀ {rs : List (Int × Int)}, FrOk rs → fP rs ≤ 2 ^ (10 * rs.length)
  | [], _ => by decide
  | r :: rs, h => by
    have h1 := h r (List.mem_cons_self ..)
    have ih := fP_le (rs := rs) fun x hx => h x (List.mem_cons_of_mem _ hx)
    have p := fP_pos (rs := rs) fun x hx => h x (List.mem_cons_of_mem _ hx)
    have e : (2 : Int) ^ (10 * (r :: rs).length) = 1024 * 2 ^ (10 * rs.length) := by
      rw [List.length_cons, show 10 * (rs.length + 1) = 10 * rs.length + 10 by omega, Int.pow_add, Int.mul_comm]; rfl
    rw [e, fP]
    calc r.2 * fP rs ≤ 1024 * fP rs := Int.mul_le_mul_of_nonneg_right h1.2.2.2.1 (by omega)
      _ ≤ 1024 * 2 ^ (10 * rs.length) := Int.mul_le_mul_of_nonneg_left ih (by decide)
theorem fT_le : ∀ {rs : List (Int × Int)}, FrOk rs → -(rs.length * 2 ^ 31 * fP rs) ≤ fT rs ∧ fT rs ≤ rs.length * 2 ^ 31 * fP rs
  | [], _ => by decide
  | r :: rs, h => by
    have h1 := h r (List.mem_cons_self ..)
    have ih := fT_le (rs := rs) fun x hx => h x (List.mem_cons_of_mem _ hx)
    have p := fP_pos (rs := rs) fun x hx => h x (List.mem_cons_of_mem _ hx)
    rw [fT, fP, List.length_cons]
    have e : ((rs.length + 1 : Nat) : Int) * 2 ^ 31 * (r.2 * fP rs) = r.2 * (rs.length * 2 ^ 31 * fP rs) + 2 ^ 31 * (r.2 * fP rs) := by
      rw [Int.natCast_add, Int.add_mul, Int.add_mul, Int.mul_left_comm]; simp
    have a1 : r.2 * fT rs ≤ r.2 * (rs.length * 2 ^ 31 * fP rs) := Int.mul_le_mul_of_nonneg_left ih.2 (by omega)
    have a2 : r.2 * -(rs.length * 2 ^ 31 * fP rs) ≤ r.2 * fT rs := Int.mul_le_mul_of_nonneg_left ih.1 (by omega)
    rw [Int.mul_neg] at a2
    have b1 : fP rs ≤ r.2 * fP rs := by
      have := Int.mul_le_mul_of_nonneg_right h1.2.2.1 (show 0 ≤ fP rs by omega)
      omega
    have c1 : r.1 * fP rs ≤ 2 ^ 31 * fP rs := Int.mul_le_mul_of_nonneg_right h1.2.1 (by omega)
    have c2 : -(2 ^ 31) * fP rs ≤ r.1 * fP rs := Int.mul_le_mul_of_nonneg_right h1.1 (by omega)
    have d1 : (2 : Int) ^ 31 * fP rs ≤ 2 ^ 31 * (r.2 * fP rs) := Int.mul_le_mul_of_nonneg_left b1 (by decide)
    rw [Int.neg_mul] at c2
    rw [e]
    constructor <;> omega
theorem sz_of {n : Nat} {x : Int} (h0 : -(2 ^ n) < x) (h1 : x < 2 ^ n) : Sz n x := by
  have e : ((2 ^ n : Nat) : Int) = (2 : Int) ^ n := by rw [Int.natCast_pow]; rfl
  show x.natAbs < 2 ^ n
  generalize (2 : Nat) ^ n = a at *
  rw [← e] at h0 h1
  omega
theorem fP_sz {rs : List (Int × Int)} (h : FrOk rs) (hl : rs.length ≤ 63) : Sz 640 (fP rs) := by
  have h1 := fP_le h
  have h2 := fP_pos h
  have h3 := pow2_mono (a := 10 * rs.length) (b := 639) (by omega)
  have h4 : (2 : Int) ^ 640 = 2 * 2 ^ 639 := by rw [Int.pow_succ, Int.mul_comm]
  have h5 := p2 639
  refine sz_of ?_ ?_
  · rw [h4]; generalize (2 : Int) ^ 639 = a at *; generalize (2 : Int) ^ (10 * rs.length) = b at *; omega
  · rw [h4]; generalize (2 : Int) ^ 639 = a at *; generalize (2 : Int) ^ (10 * rs.length) = b at *; omega
theorem fT_sz {rs : List (Int × Int)} (h : FrOk rs) (hl : rs.length ≤ 63) : Sz 680 (fT rs) := by
  have h1 := fT_le h
  have h2 := fP_le h
  have h3 := fP_pos h
  have h4 := pow2_mono (a := 10 * rs.length) (b := 630) (by omega)
  have a1 : (rs.length : Int) * 2 ^ 31 * fP rs ≤ 2 ^ 37 * fP rs := Int.mul_le_mul_of_nonneg_right (by omega) (by omega)
  have a2 : (2 : Int) ^ 37 * fP rs ≤ 2 ^ 37 * 2 ^ 630 := Int.mul_le_mul_of_nonneg_left (by omega) (by decide)
  have e : (2 : Int) ^ 37 * 2 ^ 630 = 2 ^ 667 := by rw [← Int.pow_add]
  have h5 := pow2_mono (a := 667) (b := 679) (by decide)
  have h6 : (2 : Int) ^ 680 = 2 * 2 ^ 679 := by rw [Int.pow_succ, Int.mul_comm]
  have h7 := p2 679
  rw [e] at a2
  refine sz_of ?_ ?_ <;> rw [h6] <;> generalize (2 : Int) ^ 679 = a at * <;> generalize (2 : Int) ^ 667 = b at * <;> generalize (rs.length : Int) * 2 ^ 31 * fP rs = c at * <;> generalize (2 : Int) ^ 37 * fP rs = d at * <;> omega
theorem Fr.sz {rs : List (Int × Int)} {p q : Int} (h : FrOk rs) (hl : rs.length ≤ 63) (hf : Fr rs p q) : Sz 700 p ∧ Sz 700 q := by
  have hP := fP_pos h
  have d := cop_dvd hf.1 hf.2.2
  have hq : q ≤ fP rs := Int.le_of_dvd hP d
  obtain ⟨k, hk⟩ := d
  have kp : 0 < k := by
    by_cases z : 0 < k
    · exact z
    · have : q * k ≤ 0 := Int.mul_nonpos_of_nonneg_of_nonpos (by have := hf.2.1; omega) (by omega)
      omega
  have e : p * k = fT rs := by
    have h1 := hf.1
    rw [hk, Int.mul_left_comm, Int.mul_comm (fT rs)] at h1
    exact Int.eq_of_mul_eq_mul_left (by have := hf.2.1; omega) h1
  refine ⟨(Sz.le (fT_sz h hl) ?_).mono (by decide), (Sz.le (fP_sz h hl) (by have := hf.2.1; omega)).mono (by decide)⟩
  rw [← e, Int.natAbs_mul]
  exact Nat.le_mul_of_pos_right _ (by omega)
theorem sum_turn2 {rs : List (Int × Int)} {i : Nat} {r : Int × Int} {t b : Int} (hr : rs[i]? = some r) (ht : t = fT (rs.take i)) (hb : b = fP (rs.take i)) : t * r.2 + r.1 * b = fT (rs.take (i + 1)) ∧ b * r.2 = fP (rs.take (i + 1)) := by
  rw [take_snoc2 hr, fT_snoc, fP_snoc, ht, hb]; exact ⟨rfl, rfl⟩
theorem iv {f f' q x : Int} (hq : 0 < q) (h1 : -q < f * q - x) (h2 : f * q - x ≤ 0) (h1' : -q < f' * q - x) (h2' : f' * q - x ≤ 0) : f = f' := by
  have e : (f - f') * q = f * q - f' * q := Int.sub_mul ..
  by_cases a : f - f' ≤ -1
  · have : (f - f') * q ≤ -1 * q := Int.mul_le_mul_of_nonneg_right a (by omega)
    omega
  · by_cases b : 1 ≤ f - f'
    · have : 1 * q ≤ (f - f') * q := Int.mul_le_mul_of_nonneg_right b (by omega)
      omega
    · omega
theorem iv2 {f f' q x : Int} (hq : 0 < q) (h1 : 0 ≤ f * q - x) (h2 : f * q - x < q) (h1' : 0 ≤ f' * q - x) (h2' : f' * q - x < q) : f = f' := by
  have e : (-f) * q = -(f * q) := Int.neg_mul ..
  have e' : (-f') * q = -(f' * q) := Int.neg_mul ..
  have := iv (f := -f) (f' := -f') (x := -x) hq (by omega) (by omega) (by omega) (by omega)
  omega
theorem not_mul {f p q : Int} (hq : 1 < q) (g : Int.gcd p q = 1) : f * q - p ≠ 0 := fun h => by
  have d : q ∣ p := ⟨f, by rw [Int.mul_comm]; omega⟩
  have e : Int.gcd p q = q.natAbs := by
    have := Int.gcd_eq_right_iff_dvd (by omega) |>.mpr d
    omega
  omega
theorem up_down {p q u d : Int} (hq : 0 < q) (g : Int.gcd p q = 1) (hu : u = rnd .Up p q) (hd : d = rnd .Down p q) : (1 < q → u - d = 1) ∧ (¬ 1 < q → u - d = 0) := by
  have lu := lies (w := .Up) (t := p) hq
  have ld := lies (w := .Down) (t := p) hq
  rw [← hu] at lu
  rw [← hd] at ld
  dsimp only [Lies] at lu ld
  refine ⟨fun h => ?_, fun h => ?_⟩
  · have n1 := not_mul (f := u) h g
    have n2 := not_mul (f := d) h g
    have e : (u - 1) * q = u * q - q := by rw [Int.sub_mul]; omega
    have := iv (f := u - 1) (f' := d) (x := p) hq (by omega) (by omega) ld.1 ld.2
    omega
  · have : q = 1 := by omega
    subst this
    omega
theorem near_of2 {p q u d n : Int} (hq : 0 < q) (g : Int.gcd p q = 1) (hu : u = rnd .Up p q) (hd : d = rnd .Down p q) (hn : n = rnd .Near p q) : n = u ∨ n = d := by
  have lu := lies (w := .Up) (t := p) hq
  have ld := lies (w := .Down) (t := p) hq
  have ln := lies (w := .Near) (t := p) hq
  rw [← hu] at lu
  rw [← hd] at ld
  rw [← hn] at ln
  dsimp only [Lies] at lu ld ln
  by_cases h : n * q - p ≤ 0
  · right; exact iv hq (by omega) h ld.1 ld.2
  · left; exact iv2 hq (by omega) (by omega) lu.1 lu.2
theorem cut_of {p q u d c : Int} (hq : 0 < q) (hu : u = rnd .Up p q) (hd : d = rnd .Down p q) (hc : c = rnd .Cut p q) : (0 ≤ p → c = d) ∧ (p < 0 → c = u) := by
  have lu := lies (w := .Up) (t := p) hq
  have ld := lies (w := .Down) (t := p) hq
  have lc := lies (w := .Cut) (t := p) hq
  rw [← hu] at lu
  rw [← hd] at ld
  rw [← hc] at lc
  dsimp only [Lies] at lu ld lc
  exact ⟨fun h => iv hq (lc.1 h).1 (lc.1 h).2 ld.1 ld.2, fun h => iv2 hq (lc.2 h).1 (lc.2 h).2 lu.1 lu.2⟩
/-- what is rounded up, times 2 ^ k -/
def up (t b k : Int) : Int := -(-(t * 2 ^ k.toNat) / b)
theorem up_rng {t b k : Int} (hb : 0 < b) : 0 ≤ up t b k * b - t * 2 ^ k.toNat ∧ up t b k * b - t * 2 ^ k.toNat < b := by
  have e1 := Int.ediv_mul_add_emod (-(t * 2 ^ k.toNat)) b
  have e2 := Int.emod_nonneg (-(t * 2 ^ k.toNat)) (show b ≠ 0 by omega)
  have e3 := Int.emod_lt_of_pos (-(t * 2 ^ k.toNat)) hb
  unfold up
  rw [Int.neg_mul]
  omega
theorem up_rnd {t b k : Int} (hb : 0 < b) : rnd .Up (t * 2 ^ k.toNat) b = up t b k := by
  have l := lies (w := .Up) (t := t * 2 ^ k.toNat) hb
  dsimp only [Lies] at l
  have u := up_rng (t := t) (k := k) hb
  exact iv2 hb l.1 l.2 u.1 u.2
theorem raise2 {t b k p q : Int} (hb : 0 < b) (h : p * 2 ^ k.toNat = up t b k * q) (hq : 0 < q) : 0 ≤ p * b - t * q ∧ (p * b - t * q) * 2 ^ k.toNat < b * q := by
  have u := up_rng (t := t) (k := k) hb
  have pk := p2 k.toNat
  have e : (p * b - t * q) * 2 ^ k.toNat = (up t b k * b - t * 2 ^ k.toNat) * q := by
    rw [Int.sub_mul, Int.sub_mul, Int.mul_right_comm p, h, Int.mul_right_comm _ q b, Int.mul_right_comm t q]
  have a1 : 0 ≤ (up t b k * b - t * 2 ^ k.toNat) * q := Int.mul_nonneg u.1 (by omega)
  have a2 : (up t b k * b - t * 2 ^ k.toNat) * q < b * q := Int.mul_lt_mul_of_pos_right u.2 hq
  refine ⟨?_, by omega⟩
  by_cases z : 0 ≤ p * b - t * q
  · exact z
  · have : (p * b - t * q) * 2 ^ k.toNat < 0 := Int.mul_neg_of_neg_of_pos (by omega) pk
    omega
theorem gap_small {t b k p q u v c d : Int} (hb : 0 < b) (hq : 0 < q) (hv : 0 < v) (h : (p * b - t * q) * 2 ^ k.toNat < b * q) (hu : u * (q * b) = (p * b - t * q) * v) (hc : c * 2 ^ k.toNat = 1 * d) (g : Int.gcd c d = 1) (hd : 0 < d) : u * d < c * v := by
  have hc1 : c = 1 := by
    have : d ∣ 2 ^ k.toNat := dvd_cop ⟨1, by rw [hc, Int.mul_comm]⟩ g
    have cd : c ∣ d := ⟨2 ^ k.toNat, by omega⟩
    have c0 : 0 < c := by
      by_cases z : 0 < c
      · exact z
      · have : c * 2 ^ k.toNat ≤ 0 := Int.mul_nonpos_of_nonpos_of_nonneg (by omega) (by have := p2 k.toNat; omega)
        omega
    have e : Int.gcd c d = c.natAbs := by
      have := Int.gcd_eq_left_iff_dvd (by omega) |>.mpr cd
      omega
    omega
  subst hc1
  have e : d = 2 ^ k.toNat := by omega
  subst e
  rw [Int.one_mul]
  have p1 : 0 < q * b := Int.mul_pos hq hb
  have : (q * b) * (u * 2 ^ k.toNat) < (q * b) * v := by
    calc (q * b) * (u * 2 ^ k.toNat) = u * (q * b) * 2 ^ k.toNat := by rw [Int.mul_left_comm, ← Int.mul_assoc]
      _ = (p * b - t * q) * 2 ^ k.toNat * v := by rw [hu, Int.mul_right_comm]
      _ < b * q * v := Int.mul_lt_mul_of_pos_right h hv
      _ = (q * b) * v := by rw [Int.mul_comm b q]
  exact Int.lt_of_mul_lt_mul_left this (by omega)
theorem back_up {n k p q r s : Int} (hq : 0 < q) (h : p * 2 ^ k.toNat = n * q) (hr : r * (q * 1) = p * 2 ^ k.toNat * s) (hs : 0 < s) (g : Int.gcd r s = 1) : r = n ∧ s = 1 := by
  rw [Int.mul_one, h] at hr
  have e : r * 1 = n * s := by
    rw [Int.mul_one]
    have : q * r = q * (n * s) := by rw [Int.mul_comm q r, hr, Int.mul_left_comm, Int.mul_assoc]
    exact Int.eq_of_mul_eq_mul_left (by omega) this
  exact Fr.uniq (P := 1) (T := n) (by decide) ⟨e, hs, g⟩ ⟨by rw [Int.mul_one], by decide, Int.gcd_one ..⟩
theorem zero_left {p q p0 q0 P T : Int} (hP : 0 < P) (h0 : 0 < q0) (ht : p0 * P = T * q0) (h : p * (q0 * P) = (p0 * P - T * q0) * q) (hq : 0 < q) (g : Int.gcd p q = 1) : p = 0 ∧ q = 1 := by
  have e : p * (q0 * P) = 0 := by rw [h, ht, Int.sub_self, Int.zero_mul]
  have hp : p = 0 := by
    rcases Int.mul_eq_zero.mp e with z | z
    · exact z
    · have := Int.mul_pos h0 hP; omega
  subst hp
  refine ⟨rfl, ?_⟩
  rw [Int.gcd_comm, Int.gcd_zero] at g
  omega
theorem red_ok {t b g x y : Int} (t0 : -(2 ^ 31) ≤ t) (t1 : t ≤ 2 ^ 31) (b0 : 1 ≤ b) (b1 : b ≤ 1024) (hg : g = (Int.gcd t b : Int)) (hx : x = t / g) (hy : y = b / g) : -(2 ^ 31) ≤ x ∧ x ≤ 2 ^ 31 ∧ 1 ≤ y ∧ y ≤ 1024 ∧ Int.gcd x y = 1 := by
  have l := lows hg (show 0 < b by omega)
  rw [← hx, ← hy] at l
  obtain ⟨g0, e1, e2, e3, e4⟩ := l
  have h2 : y * 1 ≤ y * g := Int.mul_le_mul_of_nonneg_left (by omega) (by omega)
  refine ⟨?_, ?_, by omega, by omega, e3⟩
  · by_cases z : 0 ≤ x
    · omega
    · have : x * g ≤ x * 1 := Int.mul_le_mul_of_nonpos_left (by omega) (by omega)
      omega
  · by_cases z : 0 ≤ x
    · have : x * 1 ≤ x * g := Int.mul_le_mul_of_nonneg_left (by omega) z
      omega
    · omega
theorem neg_ok {a b x : Int} (h : -(2 ^ 31) ≤ a ∧ a ≤ 2 ^ 31 ∧ 1 ≤ b ∧ b ≤ 1024 ∧ Int.gcd a b = 1) (hx : x = 0 - a) : -(2 ^ 31) ≤ x ∧ x ≤ 2 ^ 31 ∧ 1 ≤ b ∧ b ≤ 1024 ∧ Int.gcd x b = 1 := by
  refine ⟨by omega, by omega, h.2.2.1, h.2.2.2.1, ?_⟩
  rw [hx, Int.zero_sub, Int.neg_gcd]; exact h.2.2.2.2
theorem r1_sz {r : Int × Int} (h : -(2 ^ 31) ≤ r.1 ∧ r.1 ≤ 2 ^ 31 ∧ 1 ≤ r.2 ∧ r.2 ≤ 1024 ∧ Int.gcd r.1 r.2 = 1) : Sz 32 r.1 := by show r.1.natAbs < 2 ^ 32; omega
theorem r2_sz {r : Int × Int} (h : -(2 ^ 31) ≤ r.1 ∧ r.1 ≤ 2 ^ 31 ∧ 1 ≤ r.2 ∧ r.2 ≤ 1024 ∧ Int.gcd r.1 r.2 = 1) : Sz 11 r.2 := by show r.2.natAbs < 2 ^ 11; omega
theorem rows_nil {rs : List (Int × Int)} (h : rs.map g2 = ([] : List (Int × Int)).map g2) : rs = [] := by simpa using h
theorem rows_ne {rs : List (Int × Int)} (h : ¬ rs.map g2 = ([] : List (Int × Int)).map g2) : 0 < rs.length := by
  cases rs with
  | nil => exact absurd rfl h
  | cons r rs => simp
theorem fr_one {rs : List (Int × Int)} {r : Int × Int} (ho : FrOk rs) (hl : rs.length = 1) (h : rs[0]? = some r) : Fr rs r.1 r.2 := by
  have hg := ho.get h
  have e : rs = [r] := by
    cases rs with
    | nil => cases hl
    | cons x xs =>
      cases xs with
      | nil => simp at h; rw [h]
      | cons y ys => simp at hl
  rw [e]; exact Fr.one hg.2.2.2.2 hg.2.2.1
theorem fr_cut {rs : List (Int × Int)} {p1 q1 p2 q2 p q : Int} {n : Nat} (h1 : Fr (rs.take n) p1 q1) (h2 : Fr (rs.drop n) p2 q2) (h : p * (q1 * q2) = (p1 * q2 + p2 * q1) * q) (q0 : 0 < q) (g : Int.gcd p q = 1) : Fr rs p q := by
  rw [← List.take_append_drop n rs]; exact Fr.app h1 h2 h q0 g
theorem tw_sz {p q n K : Int} (h : p * K = n * q) (hq : 0 < q) (g : Int.gcd p q = 1) (hK : 0 < K) : p.natAbs ≤ n.natAbs ∧ q ≤ K := by
  have d := cop_dvd h g
  have hl := Int.le_of_dvd hK d
  refine ⟨?_, hl⟩
  obtain ⟨m, hm⟩ := d
  have mp : 0 < m := by
    by_cases z : 0 < m
    · exact z
    · have : q * m ≤ 0 := Int.mul_nonpos_of_nonneg_of_nonpos (by omega) (by omega)
      omega
  have e : p * m = n := by
    rw [hm, Int.mul_left_comm, Int.mul_comm n] at h
    exact Int.eq_of_mul_eq_mul_left (by omega) h
  rw [← e, Int.natAbs_mul]
  exact Nat.le_mul_of_pos_right _ (by omega)
theorem tw_q {q k K : Int} (h : q ≤ K) (hK : K = 2 ^ k.toNat) (hk : k ≤ 60) (hq : 0 < q) : Sz 62 q := by
  have := pow2_mono (a := k.toNat) (b := 60) (by omega)
  show q.natAbs < 2 ^ 62
  omega
theorem fr_nil {rs : List (Int × Int)} (h : rs.map g2 = ([] : List (Int × Int)).map g2) : Fr rs 0 1 := by rw [rows_nil h]; exact Fr.nil
theorem Fr.less {ys : List (Int × Int)} {r : Int × Int} {p1 q1 p q : Int} (h2 : 1 ≤ r.2) (h1 : Fr (r :: ys) p1 q1) (h : p * (q1 * r.2) = (p1 * r.2 - r.1 * q1) * q) (hq : 0 < q) (g : Int.gcd p q = 1) : Fr ys p q := by
  obtain ⟨e1, q1p, _⟩ := h1
  rw [fP, fT] at e1
  refine ⟨?_, hq, g⟩
  generalize fP ys = P at *
  generalize fT ys = T at *
  obtain ⟨a, b⟩ := r
  dsimp only at *
  have e : (q1 * b) * (p * P) = (q1 * b) * (T * q) := by
    calc (q1 * b) * (p * P) = p * (q1 * b) * P := by rw [Int.mul_left_comm, ← Int.mul_assoc]
      _ = (p1 * (b * P) - a * P * q1) * q := by
          rw [h, Int.mul_right_comm, Int.sub_mul, Int.mul_assoc p1, Int.mul_right_comm a q1 P]
      _ = (b * T * q1) * q := by rw [e1, Int.add_mul]; congr 1; omega
      _ = (q1 * b) * (T * q) := by rw [Int.mul_comm (b * T) q1, ← Int.mul_assoc q1, Int.mul_assoc]
  exact Int.eq_of_mul_eq_mul_left (Int.ne_of_gt (Int.mul_pos q1p (by omega))) e
theorem drop_cons2 {xs : List (Int × Int)} {k : Nat} {x : Int × Int} (h : xs[k]? = some x) : xs.drop k = x :: xs.drop (k + 1) := by
  obtain ⟨hl, he⟩ := List.getElem?_eq_some_iff.mp h
  rw [← he]; exact List.drop_eq_getElem_cons hl
theorem Fr.down {rs : List (Int × Int)} {i : Nat} {r : Int × Int} {p1 q1 p q : Int} (hr : rs[i]? = some r) (h2 : 1 ≤ r.2) (h1 : Fr (rs.drop i) p1 q1) (h : p * (q1 * r.2) = (p1 * r.2 - r.1 * q1) * q) (hq : 0 < q) (g : Int.gcd p q = 1) : Fr (rs.drop (i + 1)) p q := by
  rw [drop_cons2 hr] at h1; exact Fr.less h2 h1 h hq g
theorem Fr.none {p q : Int} (h : Fr [] p q) : p = 0 ∧ q = 1 := by
  obtain ⟨e, hq, g⟩ := h
  simp only [fP, fT, Int.mul_one, Int.zero_mul] at e
  subst e
  refine ⟨rfl, ?_⟩
  rw [Int.gcd_comm, Int.gcd_zero] at g
  omega
theorem FrOk.last {rs : List (Int × Int)} {r : Int × Int} (h : FrOk rs) (e : rs.getLast? = some r) : -(2 ^ 31) ≤ r.1 ∧ r.1 ≤ 2 ^ 31 ∧ 1 ≤ r.2 ∧ r.2 ≤ 1024 ∧ Int.gcd r.1 r.2 = 1 := h r (List.mem_of_getLast? e)
theorem Fr.sz2 {rs : List (Int × Int)} {p q : Int} (hf : Fr rs p q) (h : FrOk rs) (hl : rs.length ≤ 63) : Sz 700 p ∧ Sz 700 q := Fr.sz h hl hf
theorem Fr.qpos {rs : List (Int × Int)} {p q : Int} (hf : Fr rs p q) : 0 < q := hf.2.1
theorem FrOk.neg {rs : List (Int × Int)} {r : Int × Int} (h : FrOk rs) (e : rs.getLast? = some r) : FrOk (rs ++ [(0 - r.1, r.2)]) := h.snoc (by have z := h.last e; exact neg_ok (a := r.1) (b := r.2) z rfl)
theorem up_is {u x t b k : Int} (h : u = rnd .Up x b) (hx : x = t * 2 ^ k.toNat) (hb : 0 < b) : u = up t b k := by rw [h, hx, up_rnd hb]

def top (i : Nat) : Stmt := PySem.Challenge.pw_overwise_k19_whole_sums_and_roundings.main.body.getD i (.Pass ⟨0, 0, 0, 0⟩)
abbrev s_l_begun : Stmt := top 23
theorem sc_l_begun : FnScope ["_law_cell_here", "_law_rest"] ["_law_cell_here"] (defScope s_l_begun) := ⟨rfl, rfl, rfl, by decide +kernel, rfl, by decide +kernel, by decide +kernel⟩
abbrev s_l_draw : Stmt := top 24
theorem sc_l_draw : FnScope ["_law_state", "_law_many", "_law_found", "_law_number"] ["_law_state", "_law_many"] (defScope s_l_draw) := ⟨rfl, rfl, rfl, by decide +kernel, rfl, by decide +kernel, by decide +kernel⟩
abbrev s_l_divisor : Stmt := top 26
theorem sc_l_divisor : FnScope ["_law_one", "_law_other"] ["_law_one", "_law_other"] (defScope s_l_divisor) := ⟨rfl, rfl, rfl, by decide +kernel, rfl, by decide +kernel, by decide +kernel⟩
abbrev s_l_cell : Stmt := top 22
theorem sc_l_cell : FnScope ["_law_script", "_law_k", "_law_number"] ["_law_script", "_law_k"] (defScope s_l_cell) := ⟨rfl, rfl, rfl, by decide +kernel, rfl, by decide +kernel, by decide +kernel⟩
abbrev s_l_drawn : Stmt := top 29
theorem sc_l_drawn : FnScope ["_law_script", "_law_found", "_law_k", "_law_state", "_law_top", "_law_bottom", "_law_by", "_law_one"] ["_law_script"] (defScope s_l_drawn) := ⟨rfl, rfl, rfl, by decide +kernel, rfl, by decide +kernel, by decide +kernel⟩
abbrev s_l_summed : Stmt := top 32
theorem sc_l_summed : FnScope ["_law_row", "_law_top", "_law_bottom", "_law_one"] ["_law_row"] (defScope s_l_summed) := ⟨rfl, rfl, rfl, by decide +kernel, rfl, by decide +kernel, by decide +kernel⟩
abbrev s_Down_adjust : Stmt := inClass (top 15) 1
theorem sc_Down_adjust : FnScope ["self", "quotient", "rest", "divisor", "negative"] ["self", "quotient", "rest", "divisor", "negative"] (defScope s_Down_adjust) := ⟨rfl, rfl, rfl, by decide +kernel, rfl, by decide +kernel, by decide +kernel⟩
abbrev s_Up_adjust : Stmt := inClass (top 16) 1
theorem sc_Up_adjust : FnScope ["self", "quotient", "rest", "divisor", "negative"] ["self", "quotient", "rest", "divisor", "negative"] (defScope s_Up_adjust) := ⟨rfl, rfl, rfl, by decide +kernel, rfl, by decide +kernel, by decide +kernel⟩
abbrev s_Way_adjust : Stmt := inClass (top 14) 1
theorem sc_Way_adjust : FnScope ["self", "quotient", "rest", "divisor", "negative"] ["self", "quotient", "rest", "divisor", "negative"] (defScope s_Way_adjust) := ⟨rfl, rfl, rfl, by decide +kernel, rfl, by decide +kernel, by decide +kernel⟩
abbrev s_Near_adjust : Stmt := inClass (top 18) 2
theorem sc_Near_adjust : FnScope ["self", "quotient", "rest", "divisor", "negative"] ["self", "quotient", "rest", "divisor", "negative"] (defScope s_Near_adjust) := ⟨rfl, rfl, rfl, by decide +kernel, rfl, by decide +kernel, by decide +kernel⟩
abbrev s_Way_rounded : Stmt := inClass (top 14) 3
theorem sc_Way_rounded : FnScope ["self", "top", "bottom", "quotient", "rest"] ["self", "top", "bottom"] (defScope s_Way_rounded) := ⟨rfl, rfl, rfl, by decide +kernel, rfl, by decide +kernel, by decide +kernel⟩
abbrev s_divisor_of : Stmt := top 5
theorem sc_divisor_of : FnScope ["one", "other"] ["one", "other"] (defScope s_divisor_of) := ⟨rfl, rfl, rfl, by decide +kernel, rfl, by decide +kernel, by decide +kernel⟩
abbrev s_lowest : Stmt := top 6
theorem sc_lowest : FnScope ["top", "bottom", "common"] ["top", "bottom"] (defScope s_lowest) := ⟨rfl, rfl, rfl, by decide +kernel, rfl, by decide +kernel, by decide +kernel⟩
abbrev s_by_twos : Stmt := top 11
theorem sc_by_twos : FnScope ["number", "k"] ["number", "k"] (defScope s_by_twos) := ⟨rfl, rfl, rfl, by decide +kernel, rfl, by decide +kernel, by decide +kernel⟩
abbrev s_raised : Stmt := top 12
theorem sc_raised : FnScope ["one", "k", "top", "bottom"] ["one", "k"] (defScope s_raised) := ⟨rfl, rfl, rfl, by decide +kernel, rfl, by decide +kernel, by decide +kernel⟩
abbrev s_plus : Stmt := top 7
theorem sc_plus : FnScope ["one", "other", "a", "b", "c", "d"] ["one", "other"] (defScope s_plus) := ⟨rfl, rfl, rfl, by decide +kernel, rfl, by decide +kernel, by decide +kernel⟩
abbrev s_less : Stmt := top 10
theorem sc_less : FnScope ["one", "other"] ["one", "other"] (defScope s_less) := ⟨rfl, rfl, rfl, by decide +kernel, rfl, by decide +kernel, by decide +kernel⟩
abbrev s_times : Stmt := top 9
theorem sc_times : FnScope ["one", "other"] ["one", "other"] (defScope s_times) := ⟨rfl, rfl, rfl, by decide +kernel, rfl, by decide +kernel, by decide +kernel⟩
abbrev s_l_whole : Stmt := top 25
theorem sc_l_whole : FnScope ["_law_found"] ["_law_found"] (defScope s_l_whole) := ⟨rfl, rfl, rfl, by decide +kernel, rfl, by decide +kernel, by decide +kernel⟩
abbrev s_l_is_fraction : Stmt := top 27
theorem sc_l_is_fraction : FnScope ["_law_found"] ["_law_found"] (defScope s_l_is_fraction) := ⟨rfl, rfl, rfl, by decide +kernel, rfl, by decide +kernel, by decide +kernel⟩
abbrev s_l_halves : Stmt := top 30
theorem sc_l_halves : FnScope ["_law_row", "_law_at"] ["_law_row"] (defScope s_l_halves) := ⟨rfl, rfl, rfl, by decide +kernel, rfl, by decide +kernel, by decide +kernel⟩
abbrev s_minus : Stmt := top 8
theorem sc_minus : FnScope ["one", "other"] ["one", "other"] (defScope s_minus) := ⟨rfl, rfl, rfl, by decide +kernel, rfl, by decide +kernel, by decide +kernel⟩
abbrev s_l_left_over : Stmt := top 31
theorem sc_l_left_over : FnScope ["_law_row", "_law_total", "_law_one"] ["_law_row", "_law_total"] (defScope s_l_left_over) := ⟨rfl, rfl, rfl, by decide +kernel, rfl, by decide +kernel, by decide +kernel⟩
abbrev s_all_ways : Stmt := top 19
theorem sc_all_ways : FnScope [] [] (defScope s_all_ways) := ⟨rfl, rfl, rfl, by decide +kernel, rfl, by decide +kernel, by decide +kernel⟩
abbrev s_way_of : Stmt := top 20
theorem sc_way_of : FnScope ["word"] ["word"] (defScope s_way_of) := ⟨rfl, rfl, rfl, by decide +kernel, rfl, by decide +kernel, by decide +kernel⟩
abbrev s_l_right : Stmt := top 28
theorem sc_l_right : FnScope ["_law_word", "_law_top", "_law_bottom", "_law_found", "_law_miss"] ["_law_word", "_law_top", "_law_bottom", "_law_found"] (defScope s_l_right) := ⟨rfl, rfl, rfl, by decide +kernel, rfl, by decide +kernel, by decide +kernel⟩
abbrev s_l_roundings : Stmt := top 33
theorem sc_l_roundings : FnScope ["_law_total", "_law_told", "_law_word", "_law_found"] ["_law_total"] (defScope s_l_roundings) := ⟨rfl, rfl, rfl, by decide +kernel, rfl, by decide +kernel, by decide +kernel⟩
abbrev s_law : Stmt := top 34
theorem sc_law : FnScope ["_law_script", "_law_row", "_law_forth", "_law_one", "_law_back", "_law_top", "_law_bottom", "_law_k", "_law_up", "_law_told"] ["_law_script"] (defScope s_law) := ⟨rfl, rfl, rfl, by decide +kernel, rfl, by decide +kernel, by decide +kernel⟩
structure Tx (K : PySem.W.Frag) (mg : Str → Option Value) : Type where
  k_Cut : Ow.Kc K mg "Cut"
  k_Down : Ow.Kc K mg "Down"
  k_Near : Ow.Kc K mg "Near"
  k_Up : Ow.Kc K mg "Up"
  m0_Cut : Ow.Mk0 K k_Cut.C
  m0_Down : Ow.Mk0 K k_Down.C
  m0_Near : Ow.Mk0 K k_Near.C
  m0_Up : Ow.Mk0 K k_Up.C
  d_l_begun : Ow.Dk K mg "_law_begun" "_law_begun" s_l_begun ["_law_cell_here"]
  d_l_draw : Ow.Dk K mg "_law_draw" "_law_draw" s_l_draw ["_law_state", "_law_many"]
  d_l_divisor : Ow.Dk K mg "_law_divisor" "_law_divisor" s_l_divisor ["_law_one", "_law_other"]
  d_l_cell : Ow.Dk K mg "_law_cell" "_law_cell" s_l_cell ["_law_script", "_law_k"]
  d_l_drawn : Ow.Dk K mg "_law_drawn" "_law_drawn" s_l_drawn ["_law_script"]
  d_l_summed : Ow.Dk K mg "_law_summed" "_law_summed" s_l_summed ["_law_row"]
  d_Down_adjust : Ow.Dm K "adjust" "Down.adjust" s_Down_adjust ["self", "quotient", "rest", "divisor", "negative"]
  mt_Down_adjust : Meth K k_Down.C "adjust" d_Down_adjust.f
  d_Up_adjust : Ow.Dm K "adjust" "Up.adjust" s_Up_adjust ["self", "quotient", "rest", "divisor", "negative"]
  mt_Up_adjust : Meth K k_Up.C "adjust" d_Up_adjust.f
  d_Way_adjust : Ow.Dm K "adjust" "Way.adjust" s_Way_adjust ["self", "quotient", "rest", "divisor", "negative"]
  mt_Cut_adjust : Meth K k_Cut.C "adjust" d_Way_adjust.f
  d_Near_adjust : Ow.Dm K "adjust" "Near.adjust" s_Near_adjust ["self", "quotient", "rest", "divisor", "negative"]
  mt_Near_adjust : Meth K k_Near.C "adjust" d_Near_adjust.f
  d_Way_rounded : Ow.Dm K "rounded" "Way.rounded" s_Way_rounded ["self", "top", "bottom"]
  mt_Cut_rounded : Meth K k_Cut.C "rounded" d_Way_rounded.f
  mt_Down_rounded : Meth K k_Down.C "rounded" d_Way_rounded.f
  mt_Near_rounded : Meth K k_Near.C "rounded" d_Way_rounded.f
  mt_Up_rounded : Meth K k_Up.C "rounded" d_Way_rounded.f
  d_divisor_of : Ow.Dk K mg "divisor_of" "divisor_of" s_divisor_of ["one", "other"]
  d_lowest : Ow.Dk K mg "lowest" "lowest" s_lowest ["top", "bottom"]
  d_by_twos : Ow.Dk K mg "by_twos" "by_twos" s_by_twos ["number", "k"]
  d_raised : Ow.Dk K mg "raised" "raised" s_raised ["one", "k"]
  d_plus : Ow.Dk K mg "plus" "plus" s_plus ["one", "other"]
  d_less : Ow.Dk K mg "less" "less" s_less ["one", "other"]
  d_times : Ow.Dk K mg "times" "times" s_times ["one", "other"]
  d_l_whole : Ow.Dk K mg "_law_whole" "_law_whole" s_l_whole ["_law_found"]
  d_l_is_fraction : Ow.Dk K mg "_law_is_fraction" "_law_is_fraction" s_l_is_fraction ["_law_found"]
  d_l_halves : Ow.Dk K mg "_law_halves" "_law_halves" s_l_halves ["_law_row"]
  d_minus : Ow.Dk K mg "minus" "minus" s_minus ["one", "other"]
  d_l_left_over : Ow.Dk K mg "_law_left_over" "_law_left_over" s_l_left_over ["_law_row", "_law_total"]
  d_all_ways : Ow.Dk K mg "all_ways" "all_ways" s_all_ways []
  d_way_of : Ow.Dk K mg "way_of" "way_of" s_way_of ["word"]
  d_l_right : Ow.Dk K mg "_law_right" "_law_right" s_l_right ["_law_word", "_law_top", "_law_bottom", "_law_found"]
  d_l_roundings : Ow.Dk K mg "_law_roundings" "_law_roundings" s_l_roundings ["_law_total"]
  d_law : Ow.Dk K mg "law" "law" s_law ["_law_script"]
  z_abs : mg "abs" = none
  z_len : mg "len" = none
  z_range : mg "range" = none
  z_min : mg "min" = none
  z_divmod : mg "divmod" = none
  z_isinstance : mg "isinstance" = none
  z_bool : mg "bool" = none
  z_int : mg "int" = none
  z_tuple : mg "tuple" = none
  z_str : mg "str" = none
def cls_Way {K : PySem.W.Frag} {mg : Str → Option Value} (T : Tx K mg) : F_Way → Addr
  | .Down => T.k_Down.C
  | .Up => T.k_Up.C
  | .Cut => T.k_Cut.C
  | .Near => T.k_Near.C
theorem kcl_Way {K : PySem.W.Frag} {mg : Str → Option Value} (T : Tx K mg) (w : F_Way) : Cls K (cls_Way T w) := by cases w <;> first | exact T.k_Down.cl | exact T.k_Up.cl | exact T.k_Cut.cl | exact T.k_Near.cl
def sp_l_begun {K : PySem.W.Frag} {mg : Str → Option Value} (T : Tx K mg) : Sp := fun vs H Q E => ∃ (cell : Int), vs = [.int cell] ∧ (∀ (a : Int), ∀ (n : Int), ∀ aq, H aq = none → Q (.ref aq) (upd H aq (.lst [.int (a), .int (0), .int (n)])))
def sp_l_draw {K : PySem.W.Frag} {mg : Str → Option Value} (T : Tx K mg) : Sp := fun vs H Q E => ∃ (box : Addr) (many : Int) (a : Int) (n : Int) (c : Int), vs = [.ref box, .int many] ∧ H box = some (.lst [.int (a), .int (n), .int (c)]) ∧ (0 < many) ∧ (many ≤ 18446744073709551616) ∧ (∀ (r : Int), ∀ (a2 : Int), ∀ (n2 : Int), (0 ≤ r) → (r < many) → Q (.int (r)) (upd H box (.lst [.int (a2), .int (n2), .int (c)])))
def sp_l_divisor {K : PySem.W.Frag} {mg : Str → Option Value} (T : Tx K mg) : Sp := fun vs H Q E => ∃ (one : Int) (other : Int), vs = [.int one, .int other] ∧ (0 < other) ∧ Ow.Sz 8000 other ∧ (∀ (g : Int), (g = (Int.gcd one other : Int)) → (0 < g) → (Ow.Sz 8000 g) → Q (.int (g)) H)
def sp_l_cell {K : PySem.W.Frag} {mg : Str → Option Value} (T : Tx K mg) : Sp := fun vs H Q E => ∃ (script : Addr) (k : Int) (ns : List Int), vs = [.ref script, .int k] ∧ SqL K H script (ns.map V.int) ∧ (0 ≤ k) ∧ (k < 100) ∧ (∀ (x : Int), Q (.int (x)) H)
def sp_l_drawn {K : PySem.W.Frag} {mg : Str → Option Value} (T : Tx K mg) : Sp := fun vs H Q E => ∃ (script : Addr) (ns : List Int), vs = [.ref script] ∧ SqL K H script (ns.map V.int) ∧ (∀ (rs : List (Int × Int)), (Ow.FrOk rs) → (rs.length ≤ 63) → ∀ aq H' vs_rs, Same H H' → H aq = none → H' aq = some (.lst vs_rs) → Ow.Rws Ow.g2 H' vs_rs rs → Q (.ref aq) H')
def sp_l_summed {K : PySem.W.Frag} {mg : Str → Option Value} (T : Tx K mg) : Sp := fun vs H Q E => ∃ (row : Addr) (rs : List (Int × Int)) (vs_rs : List V), vs = [.ref row] ∧ (H row = some (.lst vs_rs) ∧ Ow.Rws Ow.g2 H vs_rs rs) ∧ (Ow.FrOk rs) ∧ (rs.length ≤ 63) ∧ (∀ (t : Int), ∀ (b : Int), (t = Ow.fT rs) → (b = Ow.fP rs) → (Ow.Sz 700 t) → (Ow.Sz 700 b) → ∀ aq H', Same H H' → H aq = none → H' aq = some (.lst [.int (t), .int (b)]) → Q (.ref aq) H')
def sp_Down_adjust {K : PySem.W.Frag} {mg : Str → Option Value} (T : Tx K mg) : Sp := fun vs H Q E => ∃ (self : Addr) (quotient : Int) (rest : Int) (divisor : Int) (negative : Bool) (dx_self : Addr), vs = [.ref self, .int quotient, .int rest, .int divisor, .bl negative] ∧ H self = some (.ins (T.k_Down.C) dx_self []) ∧ (Q (.bl (Ow.adj .Down quotient rest divisor negative)) H)
def sp_Up_adjust {K : PySem.W.Frag} {mg : Str → Option Value} (T : Tx K mg) : Sp := fun vs H Q E => ∃ (self : Addr) (quotient : Int) (rest : Int) (divisor : Int) (negative : Bool) (dx_self : Addr), vs = [.ref self, .int quotient, .int rest, .int divisor, .bl negative] ∧ H self = some (.ins (T.k_Up.C) dx_self []) ∧ (Q (.bl (Ow.adj .Up quotient rest divisor negative)) H)
def sp_Way_adjust {K : PySem.W.Frag} {mg : Str → Option Value} (T : Tx K mg) : Sp := fun vs H Q E => ∃ (self : Addr) (quotient : Int) (rest : Int) (divisor : Int) (negative : Bool) (dx_self : Addr), vs = [.ref self, .int quotient, .int rest, .int divisor, .bl negative] ∧ H self = some (.ins (T.k_Cut.C) dx_self []) ∧ (Q (.bl (Ow.adj .Cut quotient rest divisor negative)) H)
def sp_Near_adjust {K : PySem.W.Frag} {mg : Str → Option Value} (T : Tx K mg) : Sp := fun vs H Q E => ∃ (self : Addr) (quotient : Int) (rest : Int) (divisor : Int) (negative : Bool) (dx_self : Addr), vs = [.ref self, .int quotient, .int rest, .int divisor, .bl negative] ∧ H self = some (.ins (T.k_Near.C) dx_self []) ∧ (Q (.bl (Ow.adj .Near quotient rest divisor negative)) H)
def sp_Way_rounded {K : PySem.W.Frag} {mg : Str → Option Value} (T : Tx K mg) : Sp := fun vs H Q E => ∃ (self : Addr) (top : Int) (bottom : Int) (wy : Ow.F_Way) (dx_self : Addr), vs = [.ref self, .int top, .int bottom] ∧ H self = some (.ins (Ow.cls_Way T wy) dx_self []) ∧ Ow.Sz 800 top ∧ (0 < bottom) ∧ Ow.Sz 800 bottom ∧ (∀ (f : Int), (f = Ow.rnd wy top bottom) → (Ow.Sz 802 f) → ∀ H', Same H H' → Q (.int (f)) H')
def sp_divisor_of {K : PySem.W.Frag} {mg : Str → Option Value} (T : Tx K mg) : Sp := fun vs H Q E => ∃ (one : Int) (other : Int), vs = [.int one, .int other] ∧ (other ≠ 0) ∧ Ow.Sz 8000 other ∧ (∀ (g : Int), (g = (Int.gcd one other : Int)) → (0 < g) → (Ow.Sz 8000 g) → Q (.int (g)) H)
def sp_lowest {K : PySem.W.Frag} {mg : Str → Option Value} (T : Tx K mg) : Sp := fun vs H Q E => ∃ (top : Int) (bottom : Int), vs = [.int top, .int bottom] ∧ (bottom ≠ 0) ∧ Ow.Sz 8000 bottom ∧ Ow.Sz 8000 top ∧ (∀ (p : Int), ∀ (q : Int), (p * (bottom) = (top) * q) → (0 < q) → (Int.gcd p q = 1) → (Ow.Sz 8000 p) → (Ow.Sz 8000 q) → ∀ aq H', Same H H' → H aq = none → H' aq = some (.tup [.int (p), .int (q)]) → Q (.ref aq) H')
def sp_by_twos {K : PySem.W.Frag} {mg : Str → Option Value} (T : Tx K mg) : Sp := fun vs H Q E => ∃ (number : Int) (k : Int), vs = [.int number, .int k] ∧ (0 ≤ k) ∧ (k ≤ 60) ∧ Ow.Sz 820 number ∧ (∀ (p : Int), ∀ (q : Int), (p * (2 ^ k.toNat) = (number) * q) → (0 < q) → (Int.gcd p q = 1) → (Ow.Sz 820 p) → (Ow.Sz 62 q) → ∀ aq H', Same H H' → H aq = none → H' aq = some (.tup [.int (p), .int (q)]) → Q (.ref aq) H')
def sp_raised {K : PySem.W.Frag} {mg : Str → Option Value} (T : Tx K mg) : Sp := fun vs H Q E => ∃ (one : Addr) (k : Int) (t : Int) (b : Int), vs = [.ref one, .int k] ∧ H one = some (.tup [.int (t), .int (b)]) ∧ (0 < b) ∧ Ow.Sz 700 t ∧ Ow.Sz 700 b ∧ (0 ≤ k) ∧ (k ≤ 60) ∧ (∀ (p : Int), ∀ (q : Int), (p * (2 ^ k.toNat) = (Ow.up t b k) * q) → (0 < q) → (Int.gcd p q = 1) → (Ow.Sz 820 p) → (Ow.Sz 62 q) → ∀ aq H', Same H H' → H aq = none → H' aq = some (.tup [.int (p), .int (q)]) → Q (.ref aq) H')
def sp_plus {K : PySem.W.Frag} {mg : Str → Option Value} (T : Tx K mg) : Sp := fun vs H Q E => ∃ (one : Addr) (other : Addr) (a : Int) (b : Int) (c : Int) (d : Int), vs = [.ref one, .ref other] ∧ H one = some (.tup [.int (a), .int (b)]) ∧ (0 < b) ∧ Ow.Sz 2410 a ∧ Ow.Sz 2410 b ∧ H other = some (.tup [.int (c), .int (d)]) ∧ (0 < d) ∧ Ow.Sz 2410 c ∧ Ow.Sz 2410 d ∧ (∀ (p : Int), ∀ (q : Int), (p * (b * d) = (a * d + c * b) * q) → (0 < q) → (Int.gcd p q = 1) → (Ow.Sz 8000 p) → (Ow.Sz 8000 q) → ∀ aq H', Same H H' → H aq = none → H' aq = some (.tup [.int (p), .int (q)]) → Q (.ref aq) H')
def sp_less {K : PySem.W.Frag} {mg : Str → Option Value} (T : Tx K mg) : Sp := fun vs H Q E => ∃ (one : Addr) (other : Addr) (a : Int) (b : Int) (c : Int) (d : Int), vs = [.ref one, .ref other] ∧ H one = some (.tup [.int (a), .int (b)]) ∧ (0 < b) ∧ Ow.Sz 8000 a ∧ Ow.Sz 8000 b ∧ H other = some (.tup [.int (c), .int (d)]) ∧ (0 < d) ∧ Ow.Sz 8000 c ∧ Ow.Sz 8000 d ∧ (Q (.bl (decide (a * d < c * b))) H)
def sp_times {K : PySem.W.Frag} {mg : Str → Option Value} (T : Tx K mg) : Sp := fun vs H Q E => ∃ (one : Addr) (other : Addr) (a : Int) (b : Int) (c : Int) (d : Int), vs = [.ref one, .ref other] ∧ H one = some (.tup [.int (a), .int (b)]) ∧ (0 < b) ∧ Ow.Sz 2400 a ∧ Ow.Sz 2400 b ∧ H other = some (.tup [.int (c), .int (d)]) ∧ (0 < d) ∧ Ow.Sz 2400 c ∧ Ow.Sz 2400 d ∧ (∀ (p : Int), ∀ (q : Int), (p * (b * d) = (a * c) * q) → (0 < q) → (Int.gcd p q = 1) → (Ow.Sz 8000 p) → (Ow.Sz 8000 q) → ∀ aq H', Same H H' → H aq = none → H' aq = some (.tup [.int (p), .int (q)]) → Q (.ref aq) H')
def sp_l_whole {K : PySem.W.Frag} {mg : Str → Option Value} (T : Tx K mg) : Sp := fun vs H Q E => ∃ (found : Int), vs = [.int found] ∧ (Q (.bl (true)) H)
def sp_l_is_fraction {K : PySem.W.Frag} {mg : Str → Option Value} (T : Tx K mg) : Sp := fun vs H Q E => ∃ (found : Addr) (t : Int) (b : Int), vs = [.ref found] ∧ H found = some (.tup [.int (t), .int (b)]) ∧ (0 < b) ∧ Ow.Sz 8000 b ∧ (Int.gcd t b = 1) ∧ (Q (.bl (true)) H)
def sp_l_halves_ {K : PySem.W.Frag} {mg : Str → Option Value} (T : Tx K mg) (d : Nat) : Sp := fun vs H Q E => ∃ (row : Addr) (rs : List (Int × Int)) (vs_rs : List V), vs = [.ref row] ∧ (H row = some (.lst vs_rs) ∧ Ow.Rws Ow.g2 H vs_rs rs) ∧ (Ow.FrOk rs) ∧ (rs.length ≤ 63) ∧ (rs.length ≤ 2 ^ d) ∧ (∀ (p : Int), ∀ (q : Int), (Ow.Fr rs p q) → (Ow.Sz 700 p) → (Ow.Sz 700 q) → ∀ aq H', Same H H' → H' aq = some (.tup [.int (p), .int (q)]) → Q (.ref aq) H')
def sp_l_halves {K : PySem.W.Frag} {mg : Str → Option Value} (T : Tx K mg) : Nat → Sp
  | 0 => fun _ _ _ _ => False
  | d + 1 => sp_l_halves_ T d
def sp_minus {K : PySem.W.Frag} {mg : Str → Option Value} (T : Tx K mg) : Sp := fun vs H Q E => ∃ (one : Addr) (other : Addr) (a : Int) (b : Int) (c : Int) (d : Int), vs = [.ref one, .ref other] ∧ H one = some (.tup [.int (a), .int (b)]) ∧ (0 < b) ∧ Ow.Sz 2400 a ∧ Ow.Sz 2400 b ∧ H other = some (.tup [.int (c), .int (d)]) ∧ (0 < d) ∧ Ow.Sz 2400 c ∧ Ow.Sz 2400 d ∧ (∀ (p : Int), ∀ (q : Int), (p * (b * d) = (a * d - c * b) * q) → (0 < q) → (Int.gcd p q = 1) → (Ow.Sz 8000 p) → (Ow.Sz 8000 q) → ∀ aq H', Same H H' → H aq = none → H' aq = some (.tup [.int (p), .int (q)]) → Q (.ref aq) H')
def sp_l_left_over {K : PySem.W.Frag} {mg : Str → Option Value} (T : Tx K mg) : Sp := fun vs H Q E => ∃ (row : Addr) (total : Addr) (rs : List (Int × Int)) (p0 : Int) (q0 : Int) (vs_rs : List V), vs = [.ref row, .ref total] ∧ (H row = some (.lst vs_rs) ∧ Ow.Rws Ow.g2 H vs_rs rs) ∧ (Ow.FrOk rs) ∧ (rs.length ≤ 63) ∧ H total = some (.tup [.int (p0), .int (q0)]) ∧ (Ow.Fr rs p0 q0) ∧ Ow.Sz 700 p0 ∧ Ow.Sz 700 q0 ∧ (∀ (p : Int), ∀ (q : Int), (p = 0) → (q = 1) → ∀ aq H', Same H H' → H' aq = some (.tup [.int (p), .int (q)]) → Q (.ref aq) H')
def sp_all_ways {K : PySem.W.Frag} {mg : Str → Option Value} (T : Tx K mg) : Sp := fun vs H Q E => vs = [] ∧ (∀ aq, H aq = none → Q (.ref aq) (upd H aq (.lst [.str ("down"), .str ("up"), .str ("cut"), .str ("near")])))
def sp_way_of {K : PySem.W.Frag} {mg : Str → Option Value} (T : Tx K mg) : Sp := fun vs H Q E => ∃ (word : Str) (wy : Ow.F_Way), vs = [.str word] ∧ (word = Ow.wrd_Way wy) ∧ (∀ aq dq H', Same H H' → H aq = none → H' aq = some (.ins (Ow.cls_Way T wy) dq []) → Q (.ref aq) H')
def sp_l_right {K : PySem.W.Frag} {mg : Str → Option Value} (T : Tx K mg) : Sp := fun vs H Q E => ∃ (word : Str) (top : Int) (bottom : Int) (found : Int) (wy : Ow.F_Way), vs = [.str word, .int top, .int bottom, .int found] ∧ (word = Ow.wrd_Way wy) ∧ (0 < bottom) ∧ (Ow.Lies wy top bottom found) ∧ Ow.Sz 800 top ∧ Ow.Sz 800 bottom ∧ Ow.Sz 802 found ∧ (Q (.bl (true)) H)
def sp_l_roundings {K : PySem.W.Frag} {mg : Str → Option Value} (T : Tx K mg) : Sp := fun vs H Q E => ∃ (total : Addr) (p : Int) (q : Int), vs = [.ref total] ∧ H total = some (.tup [.int (p), .int (q)]) ∧ (0 < q) ∧ Ow.Sz 700 p ∧ Ow.Sz 700 q ∧ (Int.gcd p q = 1) ∧ (∀ H', Same H H' → Q (.bl (true)) H')
def sp_law (K : PySem.W.Frag) : Sp := fun vs H Q E => ∃ (script : Addr) (ns : List Int), vs = [.ref script] ∧ SqL K H script (ns.map V.int) ∧ (ns.length ≤ 63) ∧ (∀ H', Same H H' → Q (.bl (true)) H')
section
variable {P : Program} {w : World} {K : PySem.W.Frag} {mg : Str → Option Value} {base : Heap}
theorem ok_l_begun (T : Tx K mg) : FnOk P w K mg base CX0 1 T.d_l_begun.f T.d_l_begun.fd ["_law_cell_here"] (sp_l_begun T) := by
  refine T.d_l_begun.F.ok sc_l_begun (fun vs H Q E h => ?_) (fun cdv A outer s H vs Q E hr h => ?_)
  · obtain ⟨cell, rfl, _⟩ := h
    rfl
  · obtain ⟨cell, rfl, kont⟩ := h
    refine ⟨_, (pss_cons (ps_set (i := 1) sc_l_begun.nd rfl (Or.inl rfl) pe_int)
        (pss_cons (ps_if (pt_cmpR op_ge (pv 0) (Ow.pe_lit (1000000000000000000) (pe_op op_pow pe_int pe_int)) (nomark _)) (pss_one (ps_set (i := 1) sc_l_begun.nd rfl (Or.inl rfl) (pv 0))) pss_nil)
        (pss_one (ps_ret (pe_lst (pa_cons (pv 1) (pa_cons pe_int (pa_cons (pe_op Ow.op_modN (pv 0) pe_int) pa_nil)))))))), ?_⟩
    refine ⟨_, rfl, ?_⟩
    refine ⟨_, _, rfl, rfl, ⟨by decide, by decide, by decide⟩, ?_⟩
    refine ⟨by decide, ?_⟩
    refine ⟨_, _, rfl, rfl, ?_⟩
    refine ⟨_, rfl, ?_⟩
    refine Ow.ifd (fun h1 => ?_) (fun h1 => ?_)
    · refine ⟨_, rfl, ?_⟩
      refine ⟨_, rfl, ?_⟩
      refine ⟨_, rfl, ?_⟩
      refine ⟨_, _, rfl, rfl, (by first | assumption | exact Ow.divw64 (by omega) (by omega) | exact Ow.mul0 ⟨by omega, by omega⟩ | exact Ow.mul1 ⟨by omega, by omega⟩ | exact Ow.shl0 (by omega) (by omega) (by omega) | exact ⟨by omega, by omega⟩ | exact ⟨by omega, by omega, by omega⟩ | omega | (simp only [List.length_append, List.length_cons, List.length_nil]; omega) | (subst_vars; omega)), fun r h_r h0_r h1_r => ?_⟩
      refine ⟨by show 3 ≤ sizeLine; decide, fun p h_p => ?_⟩
      exact kont cell r _ h_p
    · refine ⟨_, rfl, ?_⟩
      refine ⟨_, rfl, ?_⟩
      refine ⟨_, _, rfl, rfl, (by first | assumption | exact Ow.divw64 (by omega) (by omega) | exact Ow.mul0 ⟨by omega, by omega⟩ | exact Ow.mul1 ⟨by omega, by omega⟩ | exact Ow.shl0 (by omega) (by omega) (by omega) | exact ⟨by omega, by omega⟩ | exact ⟨by omega, by omega, by omega⟩ | omega | (simp only [List.length_append, List.length_cons, List.length_nil]; omega) | (subst_vars; omega)), fun r_2 h_r_2 h0_r_2 h1_r_2 => ?_⟩
      refine ⟨by show 3 ≤ sizeLine; decide, fun p_2 h_p_2 => ?_⟩
      exact kont 0 r_2 _ h_p_2
theorem ok_l_draw (T : Tx K mg) : FnOk P w K mg base CX0 1 T.d_l_draw.f T.d_l_draw.fd ["_law_state", "_law_many"] (sp_l_draw T) := by
  refine T.d_l_draw.F.ok sc_l_draw (fun vs H Q E h => ?_) (fun cdv A outer s H vs Q E hr h => ?_)
  · obtain ⟨box, many, a, n, c, rfl, _⟩ := h
    rfl
  · obtain ⟨box, many, a, n, c, rfl, c0, c1, c2, kont⟩ := h
    refine ⟨_, (pss_cons (ps_if (pt_cmpR op_gt (pe_ix ix_list (pv 0) pe_int (fun _ _ => rfl)) pe_int (nomark _)) (pss_cons (ps_set (i := 2) sc_l_draw.nd rfl (Or.inl rfl) (pe_op Ow.op_modN (pe_ix ix_list (pv 0) pe_int (fun _ _ => rfl)) (pv 1)))
        (pss_cons (ps_asg (pe_op Ow.op_divN (pe_ix ix_list (pv 0) pe_int (fun _ _ => rfl)) (pv 1)) (pg_sub (pv 0) pe_int set_list))
        (pss_one (ps_ret (pv 2))))) pss_nil)
        (pss_cons (ps_asg (Ow.pe_nmi (pe_op op_add (pe_ix ix_list (pv 0) pe_int (fun _ _ => rfl)) pe_int)) (pg_sub (pv 0) pe_int set_list))
        (pss_cons (ps_set (i := 3) sc_l_draw.nd rfl (Or.inl rfl) (pe_op Ow.op_modN (pe_op op_add (pe_op Ow.op_mulN (pe_ix ix_list (pv 0) pe_int (fun _ _ => rfl)) pe_int) (pe_op Ow.op_mulN (pe_ix ix_list (pv 0) pe_int (fun _ _ => rfl)) pe_int)) pe_int))
        (pss_cons (ps_set (i := 3) sc_l_draw.nd rfl (Or.inl rfl) (pe_op Ow.op_modN (pe_op op_add (pe_op Ow.op_mulN (pv 3) (pv 3)) (pe_op Ow.op_mulN (pe_ix ix_list (pv 0) pe_int (fun _ _ => rfl)) pe_int)) pe_int))
        (pss_one (ps_ret (pe_op Ow.op_modN (pe_op Ow.op_modN (pe_op Ow.op_mulN (pv 3) (pv 3)) pe_int) (pv 1)))))))), ?_⟩
    refine ⟨_, rfl, ?_⟩
    refine ⟨_, _, _, _, rfl, rfl, (SqL.of c0), (by first | rfl | decide), ?_⟩
    refine ⟨_, _, rfl, rfl, ?_⟩
    refine ⟨_, rfl, ?_⟩
    refine Ow.ifd (fun h1 => ?_) (fun h1 => ?_)
    · refine ⟨_, rfl, ?_⟩
      refine ⟨_, _, _, _, rfl, rfl, (SqL.of c0), (by first | rfl | decide), ?_⟩
      refine ⟨_, rfl, ?_⟩
      refine ⟨_, _, rfl, rfl, (by first | assumption | exact Ow.divw64 (by omega) (by omega) | exact Ow.mul0 ⟨by omega, by omega⟩ | exact Ow.mul1 ⟨by omega, by omega⟩ | exact Ow.shl0 (by omega) (by omega) (by omega) | exact ⟨by omega, by omega⟩ | exact ⟨by omega, by omega, by omega⟩ | omega | (simp only [List.length_append, List.length_cons, List.length_nil]; omega) | (subst_vars; omega)), fun l_found h_l_found h0_l_found h1_l_found => ?_⟩
      refine ⟨_, rfl, ?_⟩
      refine ⟨_, _, _, _, rfl, rfl, (SqL.of c0), (by first | rfl | decide), ?_⟩
      refine ⟨_, rfl, ?_⟩
      refine ⟨_, _, rfl, rfl, (by first | assumption | exact Ow.divw64 (by omega) (by omega) | exact Ow.mul0 ⟨by omega, by omega⟩ | exact Ow.mul1 ⟨by omega, by omega⟩ | exact Ow.shl0 (by omega) (by omega) (by omega) | exact ⟨by omega, by omega⟩ | exact ⟨by omega, by omega, by omega⟩ | omega | (simp only [List.length_append, List.length_cons, List.length_nil]; omega) | (subst_vars; omega)), fun q h_q => ?_⟩
      refine ⟨_, rfl, ?_⟩
      refine ⟨_, _, _, 0, rfl, rfl, c0, rfl, ?_⟩
      refine ⟨_, rfl, ?_⟩
      exact kont l_found q n (by first | assumption | exact Ow.divw64 (by omega) (by omega) | exact Ow.mul0 ⟨by omega, by omega⟩ | exact Ow.mul1 ⟨by omega, by omega⟩ | exact Ow.shl0 (by omega) (by omega) (by omega) | exact ⟨by omega, by omega⟩ | exact ⟨by omega, by omega, by omega⟩ | omega | (simp only [List.length_append, List.length_cons, List.length_nil]; omega) | (subst_vars; omega)) (by first | assumption | exact Ow.divw64 (by omega) (by omega) | exact Ow.mul0 ⟨by omega, by omega⟩ | exact Ow.mul1 ⟨by omega, by omega⟩ | exact Ow.shl0 (by omega) (by omega) (by omega) | exact ⟨by omega, by omega⟩ | exact ⟨by omega, by omega, by omega⟩ | omega | (simp only [List.length_append, List.length_cons, List.length_nil]; omega) | (subst_vars; omega))
    · refine ⟨_, rfl, ?_⟩
      refine ⟨_, _, _, _, rfl, rfl, (SqL.of c0), (by first | rfl | decide), ?_⟩
      refine ⟨_, _, rfl, rfl, ?_⟩
      refine ⟨_, rfl, fun t h_t => ?_⟩
      refine ⟨_, rfl, ?_⟩
      refine ⟨_, _, _, 1, rfl, rfl, c0, rfl, ?_⟩
      refine ⟨_, rfl, ?_⟩
      refine ⟨_, _, _, _, rfl, rfl, (SqL.of upd_same), (by first | rfl | decide), ?_⟩
      refine ⟨_, _, rfl, rfl, (by first | assumption | exact Ow.divw64 (by omega) (by omega) | exact Ow.mul0 ⟨by omega, by omega⟩ | exact Ow.mul1 ⟨by omega, by omega⟩ | exact Ow.shl0 (by omega) (by omega) (by omega) | exact ⟨by omega, by omega⟩ | exact ⟨by omega, by omega, by omega⟩ | omega | (simp only [List.length_append, List.length_cons, List.length_nil]; omega) | (subst_vars; omega)), fun m h_m => ?_⟩
      refine ⟨_, rfl, ?_⟩
      refine ⟨_, _, _, _, rfl, rfl, (SqL.of upd_same), (by first | rfl | decide), ?_⟩
      refine ⟨_, _, rfl, rfl, (by first | assumption | exact Ow.divw64 (by omega) (by omega) | exact Ow.mul0 ⟨by omega, by omega⟩ | exact Ow.mul1 ⟨by omega, by omega⟩ | exact Ow.shl0 (by omega) (by omega) (by omega) | exact ⟨by omega, by omega⟩ | exact ⟨by omega, by omega, by omega⟩ | omega | (simp only [List.length_append, List.length_cons, List.length_nil]; omega) | (subst_vars; omega)), fun m_2 h_m_2 => ?_⟩
      refine ⟨_, _, rfl, rfl, ?_⟩
      refine ⟨_, _, rfl, rfl, (by first | assumption | exact Ow.divw64 (by omega) (by omega) | exact Ow.mul0 ⟨by omega, by omega⟩ | exact Ow.mul1 ⟨by omega, by omega⟩ | exact Ow.shl0 (by omega) (by omega) (by omega) | exact ⟨by omega, by omega⟩ | exact ⟨by omega, by omega, by omega⟩ | omega | (simp only [List.length_append, List.length_cons, List.length_nil]; omega) | (subst_vars; omega)), fun l_number h_l_number h0_l_number h1_l_number => ?_⟩
      refine ⟨_, rfl, ?_⟩
      refine ⟨_, rfl, ?_⟩
      refine ⟨_, _, rfl, rfl, (.inr (Ow.mulx (Ow.Sz.md h0_l_number h1_l_number (Ow.Sz.lit (n := 31) (i := 2147483647) (by decide))) (Ow.Sz.md h0_l_number h1_l_number (Ow.Sz.lit (n := 31) (i := 2147483647) (by decide))) (by decide))), fun m_3 h_m_3 => ?_⟩
      have z_m_3 : Ow.Sz 62 m_3 := by rw [h_m_3]; exact (Ow.Sz.mul (Ow.Sz.md h0_l_number h1_l_number (Ow.Sz.lit (n := 31) (i := 2147483647) (by decide))) (Ow.Sz.md h0_l_number h1_l_number (Ow.Sz.lit (n := 31) (i := 2147483647) (by decide))))
      refine ⟨_, rfl, ?_⟩
      refine ⟨_, _, _, _, rfl, rfl, (SqL.of upd_same), (by first | rfl | decide), ?_⟩
      refine ⟨_, _, rfl, rfl, (by first | assumption | exact Ow.divw64 (by omega) (by omega) | exact Ow.mul0 ⟨by omega, by omega⟩ | exact Ow.mul1 ⟨by omega, by omega⟩ | exact Ow.shl0 (by omega) (by omega) (by omega) | exact ⟨by omega, by omega⟩ | exact ⟨by omega, by omega, by omega⟩ | omega | (simp only [List.length_append, List.length_cons, List.length_nil]; omega) | (subst_vars; omega)), fun m_4 h_m_4 => ?_⟩
      refine ⟨_, _, rfl, rfl, ?_⟩
      refine ⟨_, _, rfl, rfl, (by first | assumption | exact Ow.divw64 (by omega) (by omega) | exact Ow.mul0 ⟨by omega, by omega⟩ | exact Ow.mul1 ⟨by omega, by omega⟩ | exact Ow.shl0 (by omega) (by omega) (by omega) | exact ⟨by omega, by omega⟩ | exact ⟨by omega, by omega, by omega⟩ | omega | (simp only [List.length_append, List.length_cons, List.length_nil]; omega) | (subst_vars; omega)), fun l_number_2 h_l_number_2 h0_l_number_2 h1_l_number_2 => ?_⟩
      refine ⟨_, rfl, ?_⟩
      refine ⟨_, rfl, ?_⟩
      refine ⟨_, _, rfl, rfl, (.inr (Ow.mulx (Ow.Sz.md h0_l_number_2 h1_l_number_2 (Ow.Sz.lit (n := 31) (i := 2147483629) (by decide))) (Ow.Sz.md h0_l_number_2 h1_l_number_2 (Ow.Sz.lit (n := 31) (i := 2147483629) (by decide))) (by decide))), fun m_5 h_m_5 => ?_⟩
      have z_m_5 : Ow.Sz 62 m_5 := by rw [h_m_5]; exact (Ow.Sz.mul (Ow.Sz.md h0_l_number_2 h1_l_number_2 (Ow.Sz.lit (n := 31) (i := 2147483629) (by decide))) (Ow.Sz.md h0_l_number_2 h1_l_number_2 (Ow.Sz.lit (n := 31) (i := 2147483629) (by decide))))
      refine ⟨_, _, rfl, rfl, (by first | assumption | exact Ow.divw64 (by omega) (by omega) | exact Ow.mul0 ⟨by omega, by omega⟩ | exact Ow.mul1 ⟨by omega, by omega⟩ | exact Ow.shl0 (by omega) (by omega) (by omega) | exact ⟨by omega, by omega⟩ | exact ⟨by omega, by omega, by omega⟩ | omega | (simp only [List.length_append, List.length_cons, List.length_nil]; omega) | (subst_vars; omega)), fun r h_r h0_r h1_r => ?_⟩
      refine ⟨_, rfl, ?_⟩
      refine ⟨_, _, rfl, rfl, (by first | assumption | exact Ow.divw64 (by omega) (by omega) | exact Ow.mul0 ⟨by omega, by omega⟩ | exact Ow.mul1 ⟨by omega, by omega⟩ | exact Ow.shl0 (by omega) (by omega) (by omega) | exact ⟨by omega, by omega⟩ | exact ⟨by omega, by omega, by omega⟩ | omega | (simp only [List.length_append, List.length_cons, List.length_nil]; omega) | (subst_vars; omega)), fun r_2 h_r_2 h0_r_2 h1_r_2 => ?_⟩
      exact kont r_2 a t (by first | assumption | exact Ow.divw64 (by omega) (by omega) | exact Ow.mul0 ⟨by omega, by omega⟩ | exact Ow.mul1 ⟨by omega, by omega⟩ | exact Ow.shl0 (by omega) (by omega) (by omega) | exact ⟨by omega, by omega⟩ | exact ⟨by omega, by omega, by omega⟩ | omega | (simp only [List.length_append, List.length_cons, List.length_nil]; omega) | (subst_vars; omega)) (by first | assumption | exact Ow.divw64 (by omega) (by omega) | exact Ow.mul0 ⟨by omega, by omega⟩ | exact Ow.mul1 ⟨by omega, by omega⟩ | exact Ow.shl0 (by omega) (by omega) (by omega) | exact ⟨by omega, by omega⟩ | exact ⟨by omega, by omega, by omega⟩ | omega | (simp only [List.length_append, List.length_cons, List.length_nil]; omega) | (subst_vars; omega))
theorem ok_l_divisor (T : Tx K mg) : FnOk P w K mg base CX0 1 T.d_l_divisor.f T.d_l_divisor.fd ["_law_one", "_law_other"] (sp_l_divisor T) := by
  refine T.d_l_divisor.F.ok sc_l_divisor (fun vs H Q E h => ?_) (fun cdv A outer s H vs Q E hr h => ?_)
  · obtain ⟨one, other, rfl, _⟩ := h
    rfl
  · obtain ⟨one, other, rfl, c0, c1, kont⟩ := h
    refine ⟨_, (pss_cons (ps_set (i := 0) sc_l_divisor.nd rfl (Or.inl rfl) (Ow.pe_nmi (pe_callB call_abs (by rfl) T.z_abs (by decide +kernel) (pa_cons (pv 0) pa_nil))))
        (pss_cons (ps_set (i := 1) sc_l_divisor.nd rfl (Or.inl rfl) (Ow.pe_nmi (pe_callB call_abs (by rfl) T.z_abs (by decide +kernel) (pa_cons (pv 1) pa_nil))))
        (pss_cons (ps_while PassesOwn.never (pt_cmpR op_gt (pv 1) pe_int (nomark _)) (pss_one (ps_par (i := 0) (j := 1) (by rfl) sc_l_divisor.nd rfl rfl (by decide) rfl rfl (pa_cons (pv 1) (pa_cons (pe_op Ow.op_modN (pv 0) (pv 1)) pa_nil)) (by rfl))))
        (pss_one (ps_ret (pv 0)))))), ?_⟩
    refine ⟨_, rfl, ?_⟩
    refine ⟨_, rfl, ?_⟩
    refine ⟨_, rfl, fun ab h_ab => ?_⟩
    have hm_ab := Ow.abs_ite h_ab
    refine ⟨_, rfl, ?_⟩
    refine ⟨_, rfl, ?_⟩
    refine ⟨_, rfl, fun ab_2 h_ab_2 => ?_⟩
    have hm_ab_2 := Ow.abs_ite h_ab_2
    obtain ⟨Wi, h1⟩ : ∃ W : Hp → Nat → L2.St → Hp → Prop, W = fun H0 m σ2 H2 => ∃ (a : Int) (b : Int), m = b.toNat ∧ σ2 = [some (.int (a)), some (.int (b))] ∧ H2 = H0 ∧ (0 ≤ a) ∧ (0 ≤ b) ∧ ((Int.gcd a b : Int) = Int.gcd one other) ∧ True := ⟨_, rfl⟩
    refine ⟨Wi _, ⟨_, by rw [h1]; exact ⟨_, _, rfl, rfl, rfl, (by first | omega | exact congrArg Nat.cast (Ow.gcd_abs h_ab h_ab_2)), (by first | omega | exact congrArg Nat.cast (Ow.gcd_abs h_ab h_ab_2)), (by first | omega | exact congrArg Nat.cast (Ow.gcd_abs h_ab h_ab_2)), trivial⟩⟩, ?_⟩
    intro m σ2 Hn h3
    rw [h1] at h3
    obtain ⟨a, b, rfl, rfl, rfl, h4, h5, h6, _⟩ := h3
    refine ⟨_, rfl, ?_⟩
    refine ⟨_, _, rfl, rfl, ?_⟩
    refine ⟨_, rfl, ?_⟩
    refine Ow.ifd (fun h7 => ?_) (fun h7 => ?_)
    · refine ⟨fun σ3 H3 => ∃ m2, m2 < b.toNat ∧ Wi _ m2 σ3 H3, fun _ _ z => z, ?_⟩
      refine ⟨_, rfl, ?_⟩
      refine ⟨_, rfl, ?_⟩
      refine ⟨_, rfl, ?_⟩
      refine ⟨_, _, rfl, rfl, (by first | assumption | exact Ow.divw64 (by omega) (by omega) | exact Ow.mul0 ⟨by omega, by omega⟩ | exact Ow.mul1 ⟨by omega, by omega⟩ | exact Ow.shl0 (by omega) (by omega) (by omega) | exact ⟨by omega, by omega⟩ | exact ⟨by omega, by omega, by omega⟩ | omega | (simp only [List.length_append, List.length_cons, List.length_nil]; omega) | (subst_vars; omega)), fun r h_r h0_r h1_r => ?_⟩
      refine ⟨_, _, rfl, ?_⟩
      refine ⟨_, ?_, by rw [h1]; exact ⟨b, r, rfl, rfl, rfl, (by first | omega | exact Ow.gcd_step (by assumption) (by assumption) (by assumption) (by assumption)), (by first | omega | exact Ow.gcd_step (by assumption) (by assumption) (by assumption) (by assumption)), (by first | omega | exact Ow.gcd_step (by assumption) (by assumption) (by assumption) (by assumption)), trivial⟩⟩
      first | assumption | exact Ow.divw64 (by omega) (by omega) | exact Ow.mul0 ⟨by omega, by omega⟩ | exact Ow.mul1 ⟨by omega, by omega⟩ | exact Ow.shl0 (by omega) (by omega) (by omega) | exact ⟨by omega, by omega⟩ | exact ⟨by omega, by omega, by omega⟩ | omega | (simp only [List.length_append, List.length_cons, List.length_nil]; omega) | (subst_vars; omega)
    · refine ⟨_, rfl, ?_⟩
      have d0 := Ow.gcd_end (by assumption) (by assumption) (by assumption) (by assumption)
      have d1 := Ow.gcd_size c0 c1 d0
      exact kont a (by first | assumption | omega) (by first | assumption | omega) d1.2
theorem ok_l_cell (T : Tx K mg) : FnOk P w K mg base CX0 1 T.d_l_cell.f T.d_l_cell.fd ["_law_script", "_law_k"] (sp_l_cell T) := by
  refine T.d_l_cell.F.ok sc_l_cell (fun vs H Q E h => ?_) (fun cdv A outer s H vs Q E hr h => ?_)
  · obtain ⟨script, k, ns, rfl, _⟩ := h
    rfl
  · obtain ⟨script, k, ns, rfl, c0, c1, c2, kont⟩ := h
    refine ⟨_, (pss_cons (ps_if (pt_cmpR op_lt (pv 1) (Ow.pe_nmi (pe_callB call_len_seq (by rfl) T.z_len (by decide +kernel) (pa_cons (pv 0) pa_nil))) (nomark _)) (pss_one (ps_ret (pe_ix ix_list (pv 0) (pv 1) (fun _ _ => rfl)))) pss_nil)
        (pss_cons (ps_set (i := 2) sc_l_cell.nd rfl (Or.inl rfl) (Ow.pe_nmi (pe_op op_add (pe_op Ow.op_mulN (pv 1) pe_int) pe_int)))
        (pss_cons (ps_if (pt_cmpR op_gt (Ow.pe_nmi (pe_callB call_len_seq (by rfl) T.z_len (by decide +kernel) (pa_cons (pv 0) pa_nil))) pe_int (nomark _)) (pss_one (ps_set (i := 2) sc_l_cell.nd rfl (Or.inl rfl) (pe_op Ow.op_modN (pe_op op_add (pe_op Ow.op_mulN (pe_ix ix_list (pv 0) (pe_op Ow.op_modN (pe_op Ow.op_mulN (pv 1) pe_int) (Ow.pe_nmi (pe_callB call_len_seq (by rfl) T.z_len (by decide +kernel) (pa_cons (pv 0) pa_nil)))) (fun _ _ => rfl)) pe_int) (pe_op Ow.op_mulN (pv 1) pe_int)) pe_int))) pss_nil)
        (pss_one (ps_ret (pe_op Ow.op_modN (pe_op Ow.op_mulN (pv 2) (pv 2)) pe_int)))))), ?_⟩
    refine ⟨_, rfl, ?_⟩
    refine ⟨_, rfl, ?_⟩
    refine ⟨_, _, rfl, .inl c0, ?_⟩
    refine ⟨_, rfl, fun len h_len => ?_⟩
    rw [List.length_map] at h_len
    refine ⟨_, _, rfl, rfl, ?_⟩
    refine ⟨_, rfl, ?_⟩
    refine Ow.ifd (fun h1 => ?_) (fun h1 => ?_)
    · refine ⟨_, rfl, ?_⟩
      refine ⟨_, rfl, ?_⟩
      refine Ow.ixn (xs := ns) (i := k) c0 (by first | assumption | exact Ow.divw64 (by omega) (by omega) | exact Ow.mul0 ⟨by omega, by omega⟩ | exact Ow.mul1 ⟨by omega, by omega⟩ | exact Ow.shl0 (by omega) (by omega) (by omega) | exact ⟨by omega, by omega⟩ | exact ⟨by omega, by omega, by omega⟩ | omega | (simp only [List.length_append, List.length_cons, List.length_nil]; omega) | (subst_vars; omega)) (by first | assumption | exact Ow.divw64 (by omega) (by omega) | exact Ow.mul0 ⟨by omega, by omega⟩ | exact Ow.mul1 ⟨by omega, by omega⟩ | exact Ow.shl0 (by omega) (by omega) (by omega) | exact ⟨by omega, by omega⟩ | exact ⟨by omega, by omega, by omega⟩ | omega | (simp only [List.length_append, List.length_cons, List.length_nil]; omega) | (subst_vars; omega)) (fun it h_it => ?_)
      exact kont it
    · refine ⟨_, rfl, ?_⟩
      refine ⟨_, _, rfl, rfl, (by first | assumption | exact Ow.divw64 (by omega) (by omega) | exact Ow.mul0 ⟨by omega, by omega⟩ | exact Ow.mul1 ⟨by omega, by omega⟩ | exact Ow.shl0 (by omega) (by omega) (by omega) | exact ⟨by omega, by omega⟩ | exact ⟨by omega, by omega, by omega⟩ | omega | (simp only [List.length_append, List.length_cons, List.length_nil]; omega) | (subst_vars; omega)), fun m h_m => ?_⟩
      refine ⟨_, _, rfl, rfl, ?_⟩
      refine ⟨_, rfl, fun l_number h_l_number => ?_⟩
      refine ⟨_, rfl, ?_⟩
      refine ⟨_, _, rfl, .inl c0, ?_⟩
      refine ⟨_, rfl, fun len_2 h_len_2 => ?_⟩
      rw [List.length_map] at h_len_2
      refine ⟨_, _, rfl, rfl, ?_⟩
      refine ⟨_, rfl, ?_⟩
      refine Ow.ifd (fun h2 => ?_) (fun h2 => ?_)
      · refine ⟨_, rfl, ?_⟩
        refine ⟨_, rfl, ?_⟩
        refine ⟨_, _, rfl, rfl, (by first | assumption | exact Ow.divw64 (by omega) (by omega) | exact Ow.mul0 ⟨by omega, by omega⟩ | exact Ow.mul1 ⟨by omega, by omega⟩ | exact Ow.shl0 (by omega) (by omega) (by omega) | exact ⟨by omega, by omega⟩ | exact ⟨by omega, by omega, by omega⟩ | omega | (simp only [List.length_append, List.length_cons, List.length_nil]; omega) | (subst_vars; omega)), fun m_2 h_m_2 => ?_⟩
        refine ⟨_, rfl, ?_⟩
        refine ⟨_, _, rfl, .inl c0, ?_⟩
        refine ⟨_, rfl, fun len_3 h_len_3 => ?_⟩
        rw [List.length_map] at h_len_3
        refine ⟨_, _, rfl, rfl, (by first | assumption | exact Ow.divw64 (by omega) (by omega) | exact Ow.mul0 ⟨by omega, by omega⟩ | exact Ow.mul1 ⟨by omega, by omega⟩ | exact Ow.shl0 (by omega) (by omega) (by omega) | exact ⟨by omega, by omega⟩ | exact ⟨by omega, by omega, by omega⟩ | omega | (simp only [List.length_append, List.length_cons, List.length_nil]; omega) | (subst_vars; omega)), fun r h_r h0_r h1_r => ?_⟩
        refine Ow.ixn (xs := ns) (i := r) c0 (by first | assumption | exact Ow.divw64 (by omega) (by omega) | exact Ow.mul0 ⟨by omega, by omega⟩ | exact Ow.mul1 ⟨by omega, by omega⟩ | exact Ow.shl0 (by omega) (by omega) (by omega) | exact ⟨by omega, by omega⟩ | exact ⟨by omega, by omega, by omega⟩ | omega | (simp only [List.length_append, List.length_cons, List.length_nil]; omega) | (subst_vars; omega)) (by first | assumption | exact Ow.divw64 (by omega) (by omega) | exact Ow.mul0 ⟨by omega, by omega⟩ | exact Ow.mul1 ⟨by omega, by omega⟩ | exact Ow.shl0 (by omega) (by omega) (by omega) | exact ⟨by omega, by omega⟩ | exact ⟨by omega, by omega, by omega⟩ | omega | (simp only [List.length_append, List.length_cons, List.length_nil]; omega) | (subst_vars; omega)) (fun it_2 h_it_2 => ?_)
        refine ⟨_, _, rfl, rfl, (by first | assumption | exact Ow.divw64 (by omega) (by omega) | exact Ow.mul0 ⟨by omega, by omega⟩ | exact Ow.mul1 ⟨by omega, by omega⟩ | exact Ow.shl0 (by omega) (by omega) (by omega) | exact ⟨by omega, by omega⟩ | exact ⟨by omega, by omega, by omega⟩ | omega | (simp only [List.length_append, List.length_cons, List.length_nil]; omega) | (subst_vars; omega)), fun m_3 h_m_3 => ?_⟩
        refine ⟨_, rfl, ?_⟩
        refine ⟨_, _, rfl, rfl, (by first | assumption | exact Ow.divw64 (by omega) (by omega) | exact Ow.mul0 ⟨by omega, by omega⟩ | exact Ow.mul1 ⟨by omega, by omega⟩ | exact Ow.shl0 (by omega) (by omega) (by omega) | exact ⟨by omega, by omega⟩ | exact ⟨by omega, by omega, by omega⟩ | omega | (simp only [List.length_append, List.length_cons, List.length_nil]; omega) | (subst_vars; omega)), fun m_4 h_m_4 => ?_⟩
        refine ⟨_, _, rfl, rfl, ?_⟩
        refine ⟨_, _, rfl, rfl, (by first | assumption | exact Ow.divw64 (by omega) (by omega) | exact Ow.mul0 ⟨by omega, by omega⟩ | exact Ow.mul1 ⟨by omega, by omega⟩ | exact Ow.shl0 (by omega) (by omega) (by omega) | exact ⟨by omega, by omega⟩ | exact ⟨by omega, by omega, by omega⟩ | omega | (simp only [List.length_append, List.length_cons, List.length_nil]; omega) | (subst_vars; omega)), fun l_number_2 h_l_number_2 h0_l_number_2 h1_l_number_2 => ?_⟩
        refine ⟨_, rfl, ?_⟩
        refine ⟨_, rfl, ?_⟩
        refine ⟨_, _, rfl, rfl, (.inr (Ow.mulx (Ow.Sz.md h0_l_number_2 h1_l_number_2 (Ow.Sz.lit (n := 31) (i := 2147483647) (by decide))) (Ow.Sz.md h0_l_number_2 h1_l_number_2 (Ow.Sz.lit (n := 31) (i := 2147483647) (by decide))) (by decide))), fun m_5 h_m_5 => ?_⟩
        have z_m_5 : Ow.Sz 62 m_5 := by rw [h_m_5]; exact (Ow.Sz.mul (Ow.Sz.md h0_l_number_2 h1_l_number_2 (Ow.Sz.lit (n := 31) (i := 2147483647) (by decide))) (Ow.Sz.md h0_l_number_2 h1_l_number_2 (Ow.Sz.lit (n := 31) (i := 2147483647) (by decide))))
        refine ⟨_, _, rfl, rfl, (by first | assumption | exact Ow.divw64 (by omega) (by omega) | exact Ow.mul0 ⟨by omega, by omega⟩ | exact Ow.mul1 ⟨by omega, by omega⟩ | exact Ow.shl0 (by omega) (by omega) (by omega) | exact ⟨by omega, by omega⟩ | exact ⟨by omega, by omega, by omega⟩ | omega | (simp only [List.length_append, List.length_cons, List.length_nil]; omega) | (subst_vars; omega)), fun r_2 h_r_2 h0_r_2 h1_r_2 => ?_⟩
        exact kont r_2
      · refine ⟨_, rfl, ?_⟩
        refine ⟨_, rfl, ?_⟩
        refine ⟨_, _, rfl, rfl, (by first | assumption | exact Ow.divw64 (by omega) (by omega) | exact Ow.mul0 ⟨by omega, by omega⟩ | exact Ow.mul1 ⟨by omega, by omega⟩ | exact Ow.shl0 (by omega) (by omega) (by omega) | exact ⟨by omega, by omega⟩ | exact ⟨by omega, by omega, by omega⟩ | omega | (simp only [List.length_append, List.length_cons, List.length_nil]; omega) | (subst_vars; omega)), fun m_6 h_m_6 => ?_⟩
        refine ⟨_, _, rfl, rfl, (by first | assumption | exact Ow.divw64 (by omega) (by omega) | exact Ow.mul0 ⟨by omega, by omega⟩ | exact Ow.mul1 ⟨by omega, by omega⟩ | exact Ow.shl0 (by omega) (by omega) (by omega) | exact ⟨by omega, by omega⟩ | exact ⟨by omega, by omega, by omega⟩ | omega | (simp only [List.length_append, List.length_cons, List.length_nil]; omega) | (subst_vars; omega)), fun r_3 h_r_3 h0_r_3 h1_r_3 => ?_⟩
        exact kont r_3
theorem ok_l_drawn (T : Tx K mg) : FnOk P w K mg base CX0 2 T.d_l_drawn.f T.d_l_drawn.fd ["_law_script"] (sp_l_drawn T) := by
  refine T.d_l_drawn.F.ok sc_l_drawn (fun vs H Q E h => ?_) (fun cdv A outer s H vs Q E hr h => ?_)
  · obtain ⟨script, ns, rfl, _⟩ := h
    rfl
  · obtain ⟨script, ns, rfl, c0, kont⟩ := h
    refine ⟨_, (pss_cons (ps_set (i := 1) sc_l_drawn.nd rfl (Or.inl rfl) (pe_lst pa_nil))
        (pss_cons (ps_for PassesOwn.never rfl (pi_range1 (by rfl) T.z_range (pa_cons (Ow.pe_nmi (pe_callB (call_min2 rfl) (by rfl) T.z_min (by decide +kernel) (pa_cons pe_int (pa_cons (Ow.pe_nmi (pe_callB call_len_seq (by rfl) T.z_len (by decide +kernel) (pa_cons (pv 0) pa_nil))) pa_nil)))) pa_nil)) (pg_name (i := 2) sc_l_drawn.nd rfl (Or.inl rfl)) (pss_cons (ps_set (i := 3) sc_l_drawn.nd rfl (Or.inl rfl) (pe_call (Ow.ok_l_begun T) (hr.mono (by decide : 1 ≤ 1)) (by rfl) T.d_l_begun.m T.d_l_begun.F.kp T.d_l_begun.b .nil pass0 (pa_cons (pe_call (Ow.ok_l_cell T) (hr.mono (by decide : 1 ≤ 1)) (by rfl) T.d_l_cell.m T.d_l_cell.F.kp T.d_l_cell.b .nil pass0 (pa_cons (pv 0) (pa_cons (pv 2) pa_nil))) pa_nil)))
        (pss_cons (ps_set (i := 4) sc_l_drawn.nd rfl (Or.inl rfl) (pe_call (Ow.ok_l_draw T) (hr.mono (by decide : 1 ≤ 1)) (by rfl) T.d_l_draw.m T.d_l_draw.F.kp T.d_l_draw.b .nil pass0 (pa_cons (pv 3) (pa_cons (pe_ix ix_list (pe_lst (pa_cons pe_int (pa_cons pe_int pa_nil))) (pe_call (Ow.ok_l_draw T) (hr.mono (by decide : 1 ≤ 1)) (by rfl) T.d_l_draw.m T.d_l_draw.F.kp T.d_l_draw.b .nil pass0 (pa_cons (pv 3) (pa_cons pe_int pa_nil))) (fun _ _ => rfl)) pa_nil))))
        (pss_cons (ps_set (i := 5) sc_l_drawn.nd rfl (Or.inl rfl) (Ow.pe_nmi (pe_op op_add pe_int (pe_call (Ow.ok_l_draw T) (hr.mono (by decide : 1 ≤ 1)) (by rfl) T.d_l_draw.m T.d_l_draw.F.kp T.d_l_draw.b .nil pass0 (pa_cons (pv 3) (pa_cons (pe_ix ix_list (pe_lst (pa_cons pe_int (pa_cons pe_int (pa_cons pe_int pa_nil)))) (pe_call (Ow.ok_l_draw T) (hr.mono (by decide : 1 ≤ 1)) (by rfl) T.d_l_draw.m T.d_l_draw.F.kp T.d_l_draw.b .nil pass0 (pa_cons (pv 3) (pa_cons pe_int pa_nil))) (fun _ _ => rfl)) pa_nil))))))
        (pss_cons (ps_if (pt_cmpR op_eq (pe_call (Ow.ok_l_draw T) (hr.mono (by decide : 1 ≤ 1)) (by rfl) T.d_l_draw.m T.d_l_draw.F.kp T.d_l_draw.b .nil pass0 (pa_cons (pv 3) (pa_cons pe_int pa_nil))) pe_int (nomark _)) (pss_one (ps_set (i := 4) sc_l_drawn.nd rfl (Or.inl rfl) (Ow.pe_nmi (pe_op op_sub pe_int (pv 4))))) pss_nil)
        (pss_cons (ps_set (i := 6) sc_l_drawn.nd rfl (Or.inl rfl) (pe_call (Ow.ok_l_divisor T) (hr.mono (by decide : 1 ≤ 1)) (by rfl) T.d_l_divisor.m T.d_l_divisor.F.kp T.d_l_divisor.b .nil pass0 (pa_cons (pv 4) (pa_cons (pv 5) pa_nil))))
        (pss_cons (ps_set (i := 7) sc_l_drawn.nd rfl (Or.inl rfl) (pe_tup (pa_cons (pe_op Ow.op_divN (pv 4) (pv 6)) (pa_cons (pe_op Ow.op_divN (pv 5) (pv 6)) pa_nil))))
        (pss_cons (ps_if (PW.pt (pw_and (pt_cmpR op_eq (pe_call (Ow.ok_l_draw T) (hr.mono (by decide : 1 ≤ 1)) (by rfl) T.d_l_draw.m T.d_l_draw.F.kp T.d_l_draw.b .nil pass0 (pa_cons (pv 3) (pa_cons pe_int pa_nil))) pe_int (nomark _)) (pw_and1 (pt_cmpR (Ow.op_neR hr.units Ow.g2) (pv 1) (pe_lst pa_nil) (nomark _))))) (pss_one (ps_set (i := 7) sc_l_drawn.nd rfl (Or.inl rfl) (pe_tup (pa_cons (pe_op op_sub pe_int (pe_ix ix_tup (pe_ix ix_list (pv 1) (Ow.pe_lit (-1) (pe_un un_neg pe_int)) (fun _ _ => rfl)) pe_int (fun _ _ => rfl))) (pa_cons (pe_ix ix_tup (pe_ix ix_list (pv 1) (Ow.pe_lit (-1) (pe_un un_neg pe_int)) (fun _ _ => rfl)) pe_int (fun _ _ => rfl)) pa_nil))))) pss_nil)
        (pss_one (ps_expr (pe_bm PySem.F.plainAttrs_list PySem.F.slot_list_append PySem.F.type_list_append mt_append (pv 1) (pa_cons (pv 7) pa_nil))))))))))))
        (pss_one (ps_ret (pv 1))))), ?_⟩
    refine ⟨by show 0 ≤ sizeLine; decide, fun p h_p => ?_⟩
    refine Ow.gnmS (σ' := [_, _, _, _, _, _, _, _]) rfl ?_
    refine ⟨_, rfl, ?_⟩
    refine ⟨_, _, rfl, .inl (Ow.seq (Ow.same_new h_p) c0), ?_⟩
    refine ⟨_, rfl, fun len h_len => ?_⟩
    rw [List.length_map] at h_len
    refine ⟨_, _, rfl, ?_⟩
    refine ⟨_, rfl, fun m h_m => ?_⟩
    have hm_m := Ow.min_ite h_m
    refine ⟨_, rfl, (by first | assumption | exact Ow.divw64 (by omega) (by omega) | exact Ow.mul0 ⟨by omega, by omega⟩ | exact Ow.mul1 ⟨by omega, by omega⟩ | exact Ow.shl0 (by omega) (by omega) (by omega) | exact ⟨by omega, by omega⟩ | exact ⟨by omega, by omega, by omega⟩ | omega | (simp only [List.length_append, List.length_cons, List.length_nil]; omega) | (subst_vars; omega)), (by first | assumption | exact Ow.divw64 (by omega) (by omega) | exact Ow.mul0 ⟨by omega, by omega⟩ | exact Ow.mul1 ⟨by omega, by omega⟩ | exact Ow.shl0 (by omega) (by omega) (by omega) | exact ⟨by omega, by omega⟩ | exact ⟨by omega, by omega, by omega⟩ | omega | (simp only [List.length_append, List.length_cons, List.length_nil]; omega) | (subst_vars; omega)), ?_⟩
    refine for_range (lo := 0) (fun ixv σ2 H2 => ∃ (p1 : Addr) (rs : Ow.Rw) (vs_rs : List V) (v_2 : Option V) (v_3 : Option V) (v_4 : Option V) (v_5 : Option V) (v_6 : Option V) (v_7 : Option V), σ2 = [some (.ref script), some (.ref p1), v_2, v_3, v_4, v_5, v_6, v_7] ∧ Same H H2 ∧ H2 p1 = some (.lst vs_rs) ∧ H p1 = none ∧ Ow.Rws Ow.g2 H2 vs_rs rs ∧ (Ow.FrOk rs) ∧ (rs.length = ixv) ∧ True) ⟨p, [], [], _, _, _, _, _, _, rfl, (Ow.same_new h_p), upd_same, h_p, Ow.Rws.nil, (by first | exact Ow.FrOk.nil | rfl), (by first | exact Ow.FrOk.nil | rfl), trivial⟩ ?_ ?_
    · rintro i _ Hn h1 ⟨p1, rs, vs_rs, _, _, _, _, _, _, rfl, h2, h3, h4, h5, h6, h7, _⟩
      refine Ow.gturn (fun l_k h_l_k => ?_)
      refine ⟨_, rfl, ?_⟩
      refine ⟨_, rfl, ?_⟩
      refine ⟨_, _, _, rfl, (Ow.seq h2 c0), (by first | assumption | exact Ow.divw64 (by omega) (by omega) | exact Ow.mul0 ⟨by omega, by omega⟩ | exact Ow.mul1 ⟨by omega, by omega⟩ | exact Ow.shl0 (by omega) (by omega) (by omega) | exact ⟨by omega, by omega⟩ | exact ⟨by omega, by omega, by omega⟩ | omega | (simp only [List.length_append, List.length_cons, List.length_nil]; omega) | (subst_vars; omega)), (by first | assumption | exact Ow.divw64 (by omega) (by omega) | exact Ow.mul0 ⟨by omega, by omega⟩ | exact Ow.mul1 ⟨by omega, by omega⟩ | exact Ow.shl0 (by omega) (by omega) (by omega) | exact ⟨by omega, by omega⟩ | exact ⟨by omega, by omega, by omega⟩ | omega | (simp only [List.length_append, List.length_cons, List.length_nil]; omega) | (subst_vars; omega)), fun t => ?_⟩
      refine ⟨_, rfl, fun a n p_2 h_p_2 => ?_⟩
      refine Ow.gnmS (σ' := [_, _, _, _, _, _, _, _]) rfl ?_
      refine ⟨_, rfl, ?_⟩
      refine ⟨by show 2 ≤ sizeLine; decide, fun p_3 h_p_3 => ?_⟩
      refine ⟨_, rfl, ?_⟩
      refine ⟨_, _, _, _, _, rfl, (Ow.at_new h_p_3 upd_same), (by first | assumption | exact Ow.divw64 (by omega) (by omega) | exact Ow.mul0 ⟨by omega, by omega⟩ | exact Ow.mul1 ⟨by omega, by omega⟩ | exact Ow.shl0 (by omega) (by omega) (by omega) | exact ⟨by omega, by omega⟩ | exact ⟨by omega, by omega, by omega⟩ | omega | (simp only [List.length_append, List.length_cons, List.length_nil]; omega) | (subst_vars; omega)), (by first | assumption | exact Ow.divw64 (by omega) (by omega) | exact Ow.mul0 ⟨by omega, by omega⟩ | exact Ow.mul1 ⟨by omega, by omega⟩ | exact Ow.shl0 (by omega) (by omega) (by omega) | exact ⟨by omega, by omega⟩ | exact ⟨by omega, by omega, by omega⟩ | omega | (simp only [List.length_append, List.length_cons, List.length_nil]; omega) | (subst_vars; omega)), fun t_2 a2 n2 h8 h9 => ?_⟩
      refine Ow.ixi2 (SqL.of (Ow.at_mut (Ow.ne_sym (ne_of_none upd_same h_p_3)) upd_same)) (by first | assumption | exact Ow.divw64 (by omega) (by omega) | exact Ow.mul0 ⟨by omega, by omega⟩ | exact Ow.mul1 ⟨by omega, by omega⟩ | exact Ow.shl0 (by omega) (by omega) (by omega) | exact ⟨by omega, by omega⟩ | exact ⟨by omega, by omega, by omega⟩ | omega | (simp only [List.length_append, List.length_cons, List.length_nil]; omega) | (subst_vars; omega)) (fun it h_it => ?_)
      have z_it : Ow.Sz 31 it := by rcases h_it with ⟨_, rfl⟩ | ⟨_, rfl⟩ <;> first | exact (Ow.Sz.mono (Ow.Sz.lit (n := 12) (i := 4001) (by decide)) (by decide : 12 ≤ 31)) | exact (Ow.Sz.lit (n := 31) (i := 1999999999) (by decide))
      refine ⟨_, _, _, _, _, rfl, upd_same, (by first | assumption | exact Ow.divw64 (by omega) (by omega) | exact Ow.mul0 ⟨by omega, by omega⟩ | exact Ow.mul1 ⟨by omega, by omega⟩ | exact Ow.shl0 (by omega) (by omega) (by omega) | exact ⟨by omega, by omega⟩ | exact ⟨by omega, by omega, by omega⟩ | omega | (simp only [List.length_append, List.length_cons, List.length_nil]; omega) | (subst_vars; omega)), (by first | assumption | exact Ow.divw64 (by omega) (by omega) | exact Ow.mul0 ⟨by omega, by omega⟩ | exact Ow.mul1 ⟨by omega, by omega⟩ | exact Ow.shl0 (by omega) (by omega) (by omega) | exact ⟨by omega, by omega⟩ | exact ⟨by omega, by omega, by omega⟩ | omega | (simp only [List.length_append, List.length_cons, List.length_nil]; omega) | (subst_vars; omega)), fun l_top a2_2 n2_2 h10 h11 => ?_⟩
      refine Ow.gnmS (σ' := [_, _, _, _, _, _, _, _]) rfl ?_
      refine ⟨_, rfl, ?_⟩
      refine ⟨by show 3 ≤ sizeLine; decide, fun p_4 h_p_4 => ?_⟩
      refine ⟨_, rfl, ?_⟩
      refine ⟨_, _, _, _, _, rfl, (Ow.at_new h_p_4 upd_same), (by first | assumption | exact Ow.divw64 (by omega) (by omega) | exact Ow.mul0 ⟨by omega, by omega⟩ | exact Ow.mul1 ⟨by omega, by omega⟩ | exact Ow.shl0 (by omega) (by omega) (by omega) | exact ⟨by omega, by omega⟩ | exact ⟨by omega, by omega, by omega⟩ | omega | (simp only [List.length_append, List.length_cons, List.length_nil]; omega) | (subst_vars; omega)), (by first | assumption | exact Ow.divw64 (by omega) (by omega) | exact Ow.mul0 ⟨by omega, by omega⟩ | exact Ow.mul1 ⟨by omega, by omega⟩ | exact Ow.shl0 (by omega) (by omega) (by omega) | exact ⟨by omega, by omega⟩ | exact ⟨by omega, by omega, by omega⟩ | omega | (simp only [List.length_append, List.length_cons, List.length_nil]; omega) | (subst_vars; omega)), fun t_3 a2_3 n2_3 h12 h13 => ?_⟩
      refine Ow.ixi3 (SqL.of (Ow.at_mut (Ow.ne_sym (ne_of_none upd_same h_p_4)) upd_same)) (by first | assumption | exact Ow.divw64 (by omega) (by omega) | exact Ow.mul0 ⟨by omega, by omega⟩ | exact Ow.mul1 ⟨by omega, by omega⟩ | exact Ow.shl0 (by omega) (by omega) (by omega) | exact ⟨by omega, by omega⟩ | exact ⟨by omega, by omega, by omega⟩ | omega | (simp only [List.length_append, List.length_cons, List.length_nil]; omega) | (subst_vars; omega)) (fun it_2 h_it_2 => ?_)
      have z_it_2 : Ow.Sz 10 it_2 := by rcases h_it_2 with ⟨_, rfl⟩ | ⟨_, rfl⟩ | ⟨_, rfl⟩ <;> first | exact (Ow.Sz.mono (Ow.Sz.lit (n := 6) (i := 60) (by decide)) (by decide : 6 ≤ 10)) | exact (Ow.Sz.lit (n := 10) (i := 1000) (by decide)) | exact (Ow.Sz.mono (Ow.Sz.lit (n := 5) (i := 16) (by decide)) (by decide : 5 ≤ 10))
      refine ⟨_, _, _, _, _, rfl, upd_same, (by first | assumption | exact Ow.divw64 (by omega) (by omega) | exact Ow.mul0 ⟨by omega, by omega⟩ | exact Ow.mul1 ⟨by omega, by omega⟩ | exact Ow.shl0 (by omega) (by omega) (by omega) | exact ⟨by omega, by omega⟩ | exact ⟨by omega, by omega, by omega⟩ | omega | (simp only [List.length_append, List.length_cons, List.length_nil]; omega) | (subst_vars; omega)), (by first | assumption | exact Ow.divw64 (by omega) (by omega) | exact Ow.mul0 ⟨by omega, by omega⟩ | exact Ow.mul1 ⟨by omega, by omega⟩ | exact Ow.shl0 (by omega) (by omega) (by omega) | exact ⟨by omega, by omega⟩ | exact ⟨by omega, by omega, by omega⟩ | omega | (simp only [List.length_append, List.length_cons, List.length_nil]; omega) | (subst_vars; omega)), fun t_4 a2_4 n2_4 h14 h15 => ?_⟩
      refine ⟨_, _, rfl, rfl, ?_⟩
      refine ⟨_, rfl, fun l_bottom h_l_bottom => ?_⟩
      have z_l_bottom : Ow.Sz 11 l_bottom := by rw [h_l_bottom]; exact (Ow.Sz.add (Ow.Sz.mono (Ow.Sz.lit (n := 1) (i := 1) (by decide)) (by decide : 1 ≤ 10)) (Ow.Sz.md h14 h15 z_it_2))
      refine Ow.gnmS (σ' := [_, _, _, _, _, _, _, _]) rfl ?_
      refine ⟨_, rfl, ?_⟩
      refine ⟨_, _, _, _, _, rfl, upd_same, (by first | assumption | exact Ow.divw64 (by omega) (by omega) | exact Ow.mul0 ⟨by omega, by omega⟩ | exact Ow.mul1 ⟨by omega, by omega⟩ | exact Ow.shl0 (by omega) (by omega) (by omega) | exact ⟨by omega, by omega⟩ | exact ⟨by omega, by omega, by omega⟩ | omega | (simp only [List.length_append, List.length_cons, List.length_nil]; omega) | (subst_vars; omega)), (by first | assumption | exact Ow.divw64 (by omega) (by omega) | exact Ow.mul0 ⟨by omega, by omega⟩ | exact Ow.mul1 ⟨by omega, by omega⟩ | exact Ow.shl0 (by omega) (by omega) (by omega) | exact ⟨by omega, by omega⟩ | exact ⟨by omega, by omega, by omega⟩ | omega | (simp only [List.length_append, List.length_cons, List.length_nil]; omega) | (subst_vars; omega)), fun t_5 a2_5 n2_5 h16 h17 => ?_⟩
      refine ⟨rfl, ?_⟩
      refine ⟨_, rfl, ?_⟩
      refine Ow.ifeqi (fun h18 => ?_) (fun h18 => ?_)
      · refine ⟨_, rfl, ?_⟩
        refine ⟨_, _, rfl, rfl, ?_⟩
        refine ⟨_, rfl, fun l_top_2 h_l_top_2 => ?_⟩
        have z_l_top_2 : Ow.Sz 32 l_top_2 := by rw [h_l_top_2]; exact (Ow.Sz.sub (Ow.Sz.mono (Ow.Sz.lit (n := 1) (i := 0) (by decide)) (by decide : 1 ≤ 31)) (Ow.Sz.md h10 h11 z_it))
        refine ⟨_, rfl, ?_⟩
        refine ⟨_, rfl, ?_⟩
        refine ⟨_, _, rfl, (by first | assumption | exact Ow.divw64 (by omega) (by omega) | exact Ow.mul0 ⟨by omega, by omega⟩ | exact Ow.mul1 ⟨by omega, by omega⟩ | exact Ow.shl0 (by omega) (by omega) (by omega) | exact ⟨by omega, by omega⟩ | exact ⟨by omega, by omega, by omega⟩ | omega | (simp only [List.length_append, List.length_cons, List.length_nil]; omega) | (subst_vars; omega)), (Ow.Sz.mono z_l_bottom (by decide : 11 ≤ 8000)), fun l_by h19 h20 h21 => ?_⟩
        refine Ow.gnmS (σ' := [_, _, _, _, _, _, _, _]) rfl ?_
        refine ⟨_, rfl, ?_⟩
        refine ⟨_, rfl, ?_⟩
        refine ⟨_, _, rfl, rfl, Ow.divz (by first | assumption | exact Ow.divw64 (by omega) (by omega) | exact Ow.mul0 ⟨by omega, by omega⟩ | exact Ow.mul1 ⟨by omega, by omega⟩ | exact Ow.shl0 (by omega) (by omega) (by omega) | exact ⟨by omega, by omega⟩ | exact ⟨by omega, by omega, by omega⟩ | omega | (simp only [List.length_append, List.length_cons, List.length_nil]; omega) | (subst_vars; omega)) h21 (by decide) (by decide), fun q h_q => ?_⟩
        have z_q : Ow.Sz 32 q := by rw [h_q]; exact (Ow.Sz.div z_l_top_2 (by first | assumption | exact Ow.divw64 (by omega) (by omega) | exact Ow.mul0 ⟨by omega, by omega⟩ | exact Ow.mul1 ⟨by omega, by omega⟩ | exact Ow.shl0 (by omega) (by omega) (by omega) | exact ⟨by omega, by omega⟩ | exact ⟨by omega, by omega, by omega⟩ | omega | (simp only [List.length_append, List.length_cons, List.length_nil]; omega) | (subst_vars; omega)))
        refine ⟨_, rfl, ?_⟩
        refine ⟨_, rfl, ?_⟩
        refine ⟨_, _, rfl, rfl, Ow.divz (by first | assumption | exact Ow.divw64 (by omega) (by omega) | exact Ow.mul0 ⟨by omega, by omega⟩ | exact Ow.mul1 ⟨by omega, by omega⟩ | exact Ow.shl0 (by omega) (by omega) (by omega) | exact ⟨by omega, by omega⟩ | exact ⟨by omega, by omega, by omega⟩ | omega | (simp only [List.length_append, List.length_cons, List.length_nil]; omega) | (subst_vars; omega)) h21 (by decide) (by decide), fun q_2 h_q_2 => ?_⟩
        have z_q_2 : Ow.Sz 11 q_2 := by rw [h_q_2]; exact (Ow.Sz.div z_l_bottom (by first | assumption | exact Ow.divw64 (by omega) (by omega) | exact Ow.mul0 ⟨by omega, by omega⟩ | exact Ow.mul1 ⟨by omega, by omega⟩ | exact Ow.shl0 (by omega) (by omega) (by omega) | exact ⟨by omega, by omega⟩ | exact ⟨by omega, by omega, by omega⟩ | omega | (simp only [List.length_append, List.length_cons, List.length_nil]; omega) | (subst_vars; omega)))
        refine ⟨by show 2 ≤ sizeLine; decide, fun p_5 h_p_5 => ?_⟩
        refine Ow.gnmS (σ' := [_, _, _, _, _, _, _, _]) rfl ?_
        refine ⟨_, rfl, ?_⟩
        refine ⟨_, _, _, _, _, rfl, (Ow.at_new h_p_5 upd_same), (by first | assumption | exact Ow.divw64 (by omega) (by omega) | exact Ow.mul0 ⟨by omega, by omega⟩ | exact Ow.mul1 ⟨by omega, by omega⟩ | exact Ow.shl0 (by omega) (by omega) (by omega) | exact ⟨by omega, by omega⟩ | exact ⟨by omega, by omega, by omega⟩ | omega | (simp only [List.length_append, List.length_cons, List.length_nil]; omega) | (subst_vars; omega)), (by first | assumption | exact Ow.divw64 (by omega) (by omega) | exact Ow.mul0 ⟨by omega, by omega⟩ | exact Ow.mul1 ⟨by omega, by omega⟩ | exact Ow.shl0 (by omega) (by omega) (by omega) | exact ⟨by omega, by omega⟩ | exact ⟨by omega, by omega, by omega⟩ | omega | (simp only [List.length_append, List.length_cons, List.length_nil]; omega) | (subst_vars; omega)), fun t_6 a2_6 n2_6 h22 h23 => ?_⟩
        refine ⟨rfl, ?_⟩
        refine ⟨_, rfl, ?_⟩
        refine Ow.ifeqi (fun h24 => ?_) (fun h24 => ?_)
        · refine ⟨_, rfl, ?_⟩
          refine ⟨by show 0 ≤ sizeLine; decide, fun p_6 h_p_6 => ?_⟩
          refine ⟨_, _, _, _, _, _, rfl, rfl, (SqL.of (Ow.at_new h_p_6 (Ow.at_mut (ne_of_none h3 h_p_2) (Ow.at_new h_p_5 (Ow.at_mut (ne_of_none h3 h_p_2) (Ow.at_mut (ne_of_none h3 h_p_2) (Ow.at_mut (ne_of_none h3 h_p_2) (Ow.at_new h_p_4 (Ow.at_mut (ne_of_none h3 h_p_2) (Ow.at_mut (ne_of_none h3 h_p_2) (Ow.at_new h_p_3 (Ow.at_new h_p_2 h3)))))))))))), (SqL.of upd_same), (Ow.Rws.new h_p_6 (Ow.Rws.mut (Ow.at_new h_p_5 upd_same) (Ow.Rws.new h_p_5 (Ow.Rws.mut upd_same (Ow.Rws.mut upd_same (Ow.Rws.mut (Ow.at_new h_p_4 upd_same) (Ow.Rws.new h_p_4 (Ow.Rws.mut upd_same (Ow.Rws.mut (Ow.at_new h_p_3 upd_same) (Ow.Rws.new h_p_3 (Ow.Rws.new h_p_2 h5))))))))))), Ow.Rws.nil, ?_⟩
          refine ⟨_, rfl, ?_⟩
          refine Ow.ifnd (fun h25 => ?_) (fun h25 => ?_)
          · refine ⟨_, rfl, ?_⟩
            refine ⟨_, rfl, ?_⟩
            refine ⟨by decide, ?_⟩
            refine Ow.ixrowL (SqL.of (Ow.at_new h_p_6 (Ow.at_mut (ne_of_none h3 h_p_2) (Ow.at_new h_p_5 (Ow.at_mut (ne_of_none h3 h_p_2) (Ow.at_mut (ne_of_none h3 h_p_2) (Ow.at_mut (ne_of_none h3 h_p_2) (Ow.at_new h_p_4 (Ow.at_mut (ne_of_none h3 h_p_2) (Ow.at_mut (ne_of_none h3 h_p_2) (Ow.at_new h_p_3 (Ow.at_new h_p_2 h3)))))))))))) (Ow.Rws.new h_p_6 (Ow.Rws.mut (Ow.at_new h_p_5 upd_same) (Ow.Rws.new h_p_5 (Ow.Rws.mut upd_same (Ow.Rws.mut upd_same (Ow.Rws.mut (Ow.at_new h_p_4 upd_same) (Ow.Rws.new h_p_4 (Ow.Rws.mut upd_same (Ow.Rws.mut (Ow.at_new h_p_3 upd_same) (Ow.Rws.new h_p_3 (Ow.Rws.new h_p_2 h5))))))))))) (by exact Ow.rows_ne (by assumption)) (fun tp r h_r h_tp => ?_)
            refine ⟨_, _, _, _, rfl, rfl, (SqT.of h_tp), (by first | rfl | decide), ?_⟩
            refine ⟨_, _, rfl, rfl, ?_⟩
            refine ⟨_, rfl, ?_⟩
            refine ⟨_, rfl, ?_⟩
            refine ⟨by decide, ?_⟩
            refine Ow.ixrowL (SqL.of (Ow.at_new h_p_6 (Ow.at_mut (ne_of_none h3 h_p_2) (Ow.at_new h_p_5 (Ow.at_mut (ne_of_none h3 h_p_2) (Ow.at_mut (ne_of_none h3 h_p_2) (Ow.at_mut (ne_of_none h3 h_p_2) (Ow.at_new h_p_4 (Ow.at_mut (ne_of_none h3 h_p_2) (Ow.at_mut (ne_of_none h3 h_p_2) (Ow.at_new h_p_3 (Ow.at_new h_p_2 h3)))))))))))) (Ow.Rws.new h_p_6 (Ow.Rws.mut (Ow.at_new h_p_5 upd_same) (Ow.Rws.new h_p_5 (Ow.Rws.mut upd_same (Ow.Rws.mut upd_same (Ow.Rws.mut (Ow.at_new h_p_4 upd_same) (Ow.Rws.new h_p_4 (Ow.Rws.mut upd_same (Ow.Rws.mut (Ow.at_new h_p_3 upd_same) (Ow.Rws.new h_p_3 (Ow.Rws.new h_p_2 h5))))))))))) (by exact Ow.rows_ne (by assumption)) (fun tp_2 r_2 h_r_2 h_tp_2 => ?_)
            obtain rfl : r = r_2 := Option.some.inj (h_r.symm.trans h_r_2)
            refine ⟨_, _, _, _, rfl, rfl, (SqT.of h_tp_2), (by first | rfl | decide), ?_⟩
            refine ⟨by show 2 ≤ sizeLine; decide, fun p_7 h_p_7 => ?_⟩
            refine ⟨_, rfl, ?_⟩
            refine ⟨.inl ⟨rfl, _, (SqL.of (Ow.at_new h_p_7 (Ow.at_new h_p_6 (Ow.at_mut (ne_of_none h3 h_p_2) (Ow.at_new h_p_5 (Ow.at_mut (ne_of_none h3 h_p_2) (Ow.at_mut (ne_of_none h3 h_p_2) (Ow.at_mut (ne_of_none h3 h_p_2) (Ow.at_new h_p_4 (Ow.at_mut (ne_of_none h3 h_p_2) (Ow.at_mut (ne_of_none h3 h_p_2) (Ow.at_new h_p_3 (Ow.at_new h_p_2 h3)))))))))))))⟩, ?_⟩
            refine ⟨_, rfl, ?_⟩
            refine ⟨_, _, _, rfl, rfl, (Ow.at_new h_p_7 (Ow.at_new h_p_6 (Ow.at_mut (ne_of_none h3 h_p_2) (Ow.at_new h_p_5 (Ow.at_mut (ne_of_none h3 h_p_2) (Ow.at_mut (ne_of_none h3 h_p_2) (Ow.at_mut (ne_of_none h3 h_p_2) (Ow.at_new h_p_4 (Ow.at_mut (ne_of_none h3 h_p_2) (Ow.at_mut (ne_of_none h3 h_p_2) (Ow.at_new h_p_3 (Ow.at_new h_p_2 h3)))))))))))), (Ow.szl (by rw [(h5).len]; first | assumption | exact Ow.divw64 (by omega) (by omega) | exact Ow.mul0 ⟨by omega, by omega⟩ | exact Ow.mul1 ⟨by omega, by omega⟩ | exact Ow.shl0 (by omega) (by omega) (by omega) | exact ⟨by omega, by omega⟩ | exact ⟨by omega, by omega, by omega⟩ | omega | (simp only [List.length_append, List.length_cons, List.length_nil]; omega) | (subst_vars; omega))), ?_⟩
            exact ⟨p1, (rs ++ [(0 - r.1, r.2)]), (vs_rs ++ [V.ref p_7]), _, _, _, _, _, _, rfl, (Ow.same_mut (((Ow.same_mut ((Ow.same_mut (Ow.same_mut (Ow.same_mut ((Ow.same_mut (Ow.same_mut ((h2.trans (Ow.same_new h_p_2)).trans (Ow.same_new h_p_3)) (Same.free h2 h_p_2)) (Same.free h2 h_p_2)).trans (Ow.same_new h_p_4)) (Same.free h2 h_p_2)) (Same.free h2 h_p_2)) (Same.free h2 h_p_2)).trans (Ow.same_new h_p_5)) (Same.free h2 h_p_2)).trans (Ow.same_new h_p_6)).trans (Ow.same_new h_p_7)) h4), upd_same, h4, (Ow.Rws.snoc (r := (0 - r.1, r.2)) (Ow.Rws.mut (Ow.at_new h_p_7 (Ow.at_new h_p_6 (Ow.at_mut (ne_of_none h3 h_p_2) (Ow.at_new h_p_5 (Ow.at_mut (ne_of_none h3 h_p_2) (Ow.at_mut (ne_of_none h3 h_p_2) (Ow.at_mut (ne_of_none h3 h_p_2) (Ow.at_new h_p_4 (Ow.at_mut (ne_of_none h3 h_p_2) (Ow.at_mut (ne_of_none h3 h_p_2) (Ow.at_new h_p_3 (Ow.at_new h_p_2 h3)))))))))))) (Ow.Rws.new h_p_7 (Ow.Rws.new h_p_6 (Ow.Rws.mut (Ow.at_new h_p_5 upd_same) (Ow.Rws.new h_p_5 (Ow.Rws.mut upd_same (Ow.Rws.mut upd_same (Ow.Rws.mut (Ow.at_new h_p_4 upd_same) (Ow.Rws.new h_p_4 (Ow.Rws.mut upd_same (Ow.Rws.mut (Ow.at_new h_p_3 upd_same) (Ow.Rws.new h_p_3 (Ow.Rws.new h_p_2 h5))))))))))))) (Ow.at_mutT (Ow.at_new h_p_7 (Ow.at_new h_p_6 (Ow.at_mut (ne_of_none h3 h_p_2) (Ow.at_new h_p_5 (Ow.at_mut (ne_of_none h3 h_p_2) (Ow.at_mut (ne_of_none h3 h_p_2) (Ow.at_mut (ne_of_none h3 h_p_2) (Ow.at_new h_p_4 (Ow.at_mut (ne_of_none h3 h_p_2) (Ow.at_mut (ne_of_none h3 h_p_2) (Ow.at_new h_p_3 (Ow.at_new h_p_2 h3)))))))))))) upd_same)), (by first | (rw [List.length_append, List.length_singleton]; omega) | exact Ow.FrOk.snoc (by assumption) (Ow.red_ok (t := l_top_2) (b := l_bottom) (by omega) (by omega) (by omega) (by omega) (by assumption) (by dsimp only; assumption) (by dsimp only; assumption)) | exact Ow.FrOk.neg (by assumption) (by assumption)), (by first | (rw [List.length_append, List.length_singleton]; omega) | exact Ow.FrOk.snoc (by assumption) (Ow.red_ok (t := l_top_2) (b := l_bottom) (by omega) (by omega) (by omega) (by omega) (by assumption) (by dsimp only; assumption) (by dsimp only; assumption)) | exact Ow.FrOk.neg (by assumption) (by assumption)), trivial⟩
          · refine ⟨_, rfl, ?_⟩
            refine ⟨.inl ⟨rfl, _, (SqL.of (Ow.at_new h_p_6 (Ow.at_mut (ne_of_none h3 h_p_2) (Ow.at_new h_p_5 (Ow.at_mut (ne_of_none h3 h_p_2) (Ow.at_mut (ne_of_none h3 h_p_2) (Ow.at_mut (ne_of_none h3 h_p_2) (Ow.at_new h_p_4 (Ow.at_mut (ne_of_none h3 h_p_2) (Ow.at_mut (ne_of_none h3 h_p_2) (Ow.at_new h_p_3 (Ow.at_new h_p_2 h3))))))))))))⟩, ?_⟩
            refine ⟨_, rfl, ?_⟩
            refine ⟨_, _, _, rfl, rfl, (Ow.at_new h_p_6 (Ow.at_mut (ne_of_none h3 h_p_2) (Ow.at_new h_p_5 (Ow.at_mut (ne_of_none h3 h_p_2) (Ow.at_mut (ne_of_none h3 h_p_2) (Ow.at_mut (ne_of_none h3 h_p_2) (Ow.at_new h_p_4 (Ow.at_mut (ne_of_none h3 h_p_2) (Ow.at_mut (ne_of_none h3 h_p_2) (Ow.at_new h_p_3 (Ow.at_new h_p_2 h3))))))))))), (Ow.szl (by rw [(h5).len]; first | assumption | exact Ow.divw64 (by omega) (by omega) | exact Ow.mul0 ⟨by omega, by omega⟩ | exact Ow.mul1 ⟨by omega, by omega⟩ | exact Ow.shl0 (by omega) (by omega) (by omega) | exact ⟨by omega, by omega⟩ | exact ⟨by omega, by omega, by omega⟩ | omega | (simp only [List.length_append, List.length_cons, List.length_nil]; omega) | (subst_vars; omega))), ?_⟩
            exact ⟨p1, (rs ++ [(q, q_2)]), (vs_rs ++ [V.ref p_5]), _, _, _, _, _, _, rfl, (Ow.same_mut ((Ow.same_mut ((Ow.same_mut (Ow.same_mut (Ow.same_mut ((Ow.same_mut (Ow.same_mut ((h2.trans (Ow.same_new h_p_2)).trans (Ow.same_new h_p_3)) (Same.free h2 h_p_2)) (Same.free h2 h_p_2)).trans (Ow.same_new h_p_4)) (Same.free h2 h_p_2)) (Same.free h2 h_p_2)) (Same.free h2 h_p_2)).trans (Ow.same_new h_p_5)) (Same.free h2 h_p_2)).trans (Ow.same_new h_p_6)) h4), upd_same, h4, (Ow.Rws.snoc (r := (q, q_2)) (Ow.Rws.mut (Ow.at_new h_p_6 (Ow.at_mut (ne_of_none h3 h_p_2) (Ow.at_new h_p_5 (Ow.at_mut (ne_of_none h3 h_p_2) (Ow.at_mut (ne_of_none h3 h_p_2) (Ow.at_mut (ne_of_none h3 h_p_2) (Ow.at_new h_p_4 (Ow.at_mut (ne_of_none h3 h_p_2) (Ow.at_mut (ne_of_none h3 h_p_2) (Ow.at_new h_p_3 (Ow.at_new h_p_2 h3))))))))))) (Ow.Rws.new h_p_6 (Ow.Rws.mut (Ow.at_new h_p_5 upd_same) (Ow.Rws.new h_p_5 (Ow.Rws.mut upd_same (Ow.Rws.mut upd_same (Ow.Rws.mut (Ow.at_new h_p_4 upd_same) (Ow.Rws.new h_p_4 (Ow.Rws.mut upd_same (Ow.Rws.mut (Ow.at_new h_p_3 upd_same) (Ow.Rws.new h_p_3 (Ow.Rws.new h_p_2 h5)))))))))))) (Ow.at_mutT (Ow.at_new h_p_6 (Ow.at_mut (ne_of_none h3 h_p_2) (Ow.at_new h_p_5 (Ow.at_mut (ne_of_none h3 h_p_2) (Ow.at_mut (ne_of_none h3 h_p_2) (Ow.at_mut (ne_of_none h3 h_p_2) (Ow.at_new h_p_4 (Ow.at_mut (ne_of_none h3 h_p_2) (Ow.at_mut (ne_of_none h3 h_p_2) (Ow.at_new h_p_3 (Ow.at_new h_p_2 h3))))))))))) (Ow.at_new h_p_6 (Ow.at_mutT (Ow.at_new h_p_5 upd_same) upd_same)))), (by first | (rw [List.length_append, List.length_singleton]; omega) | exact Ow.FrOk.snoc (by assumption) (Ow.red_ok (t := l_top_2) (b := l_bottom) (by omega) (by omega) (by omega) (by omega) (by assumption) (by dsimp only; assumption) (by dsimp only; assumption)) | exact Ow.FrOk.neg (by assumption) (by assumption)), (by first | (rw [List.length_append, List.length_singleton]; omega) | exact Ow.FrOk.snoc (by assumption) (Ow.red_ok (t := l_top_2) (b := l_bottom) (by omega) (by omega) (by omega) (by omega) (by assumption) (by dsimp only; assumption) (by dsimp only; assumption)) | exact Ow.FrOk.neg (by assumption) (by assumption)), trivial⟩
        · refine iteF ?_
          refine ⟨_, rfl, ?_⟩
          refine ⟨.inl ⟨rfl, _, (SqL.of (Ow.at_mut (ne_of_none h3 h_p_2) (Ow.at_new h_p_5 (Ow.at_mut (ne_of_none h3 h_p_2) (Ow.at_mut (ne_of_none h3 h_p_2) (Ow.at_mut (ne_of_none h3 h_p_2) (Ow.at_new h_p_4 (Ow.at_mut (ne_of_none h3 h_p_2) (Ow.at_mut (ne_of_none h3 h_p_2) (Ow.at_new h_p_3 (Ow.at_new h_p_2 h3)))))))))))⟩, ?_⟩
          refine ⟨_, rfl, ?_⟩
          refine ⟨_, _, _, rfl, rfl, (Ow.at_mut (ne_of_none h3 h_p_2) (Ow.at_new h_p_5 (Ow.at_mut (ne_of_none h3 h_p_2) (Ow.at_mut (ne_of_none h3 h_p_2) (Ow.at_mut (ne_of_none h3 h_p_2) (Ow.at_new h_p_4 (Ow.at_mut (ne_of_none h3 h_p_2) (Ow.at_mut (ne_of_none h3 h_p_2) (Ow.at_new h_p_3 (Ow.at_new h_p_2 h3)))))))))), (Ow.szl (by rw [(h5).len]; first | assumption | exact Ow.divw64 (by omega) (by omega) | exact Ow.mul0 ⟨by omega, by omega⟩ | exact Ow.mul1 ⟨by omega, by omega⟩ | exact Ow.shl0 (by omega) (by omega) (by omega) | exact ⟨by omega, by omega⟩ | exact ⟨by omega, by omega, by omega⟩ | omega | (simp only [List.length_append, List.length_cons, List.length_nil]; omega) | (subst_vars; omega))), ?_⟩
          exact ⟨p1, (rs ++ [(q, q_2)]), (vs_rs ++ [V.ref p_5]), _, _, _, _, _, _, rfl, (Ow.same_mut (Ow.same_mut ((Ow.same_mut (Ow.same_mut (Ow.same_mut ((Ow.same_mut (Ow.same_mut ((h2.trans (Ow.same_new h_p_2)).trans (Ow.same_new h_p_3)) (Same.free h2 h_p_2)) (Same.free h2 h_p_2)).trans (Ow.same_new h_p_4)) (Same.free h2 h_p_2)) (Same.free h2 h_p_2)) (Same.free h2 h_p_2)).trans (Ow.same_new h_p_5)) (Same.free h2 h_p_2)) h4), upd_same, h4, (Ow.Rws.snoc (r := (q, q_2)) (Ow.Rws.mut (Ow.at_mut (ne_of_none h3 h_p_2) (Ow.at_new h_p_5 (Ow.at_mut (ne_of_none h3 h_p_2) (Ow.at_mut (ne_of_none h3 h_p_2) (Ow.at_mut (ne_of_none h3 h_p_2) (Ow.at_new h_p_4 (Ow.at_mut (ne_of_none h3 h_p_2) (Ow.at_mut (ne_of_none h3 h_p_2) (Ow.at_new h_p_3 (Ow.at_new h_p_2 h3)))))))))) (Ow.Rws.mut (Ow.at_new h_p_5 upd_same) (Ow.Rws.new h_p_5 (Ow.Rws.mut upd_same (Ow.Rws.mut upd_same (Ow.Rws.mut (Ow.at_new h_p_4 upd_same) (Ow.Rws.new h_p_4 (Ow.Rws.mut upd_same (Ow.Rws.mut (Ow.at_new h_p_3 upd_same) (Ow.Rws.new h_p_3 (Ow.Rws.new h_p_2 h5))))))))))) (Ow.at_mutT (Ow.at_mut (ne_of_none h3 h_p_2) (Ow.at_new h_p_5 (Ow.at_mut (ne_of_none h3 h_p_2) (Ow.at_mut (ne_of_none h3 h_p_2) (Ow.at_mut (ne_of_none h3 h_p_2) (Ow.at_new h_p_4 (Ow.at_mut (ne_of_none h3 h_p_2) (Ow.at_mut (ne_of_none h3 h_p_2) (Ow.at_new h_p_3 (Ow.at_new h_p_2 h3)))))))))) (Ow.at_mutT (Ow.at_new h_p_5 upd_same) upd_same))), (by first | (rw [List.length_append, List.length_singleton]; omega) | exact Ow.FrOk.snoc (by assumption) (Ow.red_ok (t := l_top_2) (b := l_bottom) (by omega) (by omega) (by omega) (by omega) (by assumption) (by dsimp only; assumption) (by dsimp only; assumption)) | exact Ow.FrOk.neg (by assumption) (by assumption)), (by first | (rw [List.length_append, List.length_singleton]; omega) | exact Ow.FrOk.snoc (by assumption) (Ow.red_ok (t := l_top_2) (b := l_bottom) (by omega) (by omega) (by omega) (by omega) (by assumption) (by dsimp only; assumption) (by dsimp only; assumption)) | exact Ow.FrOk.neg (by assumption) (by assumption)), trivial⟩
      · refine ⟨_, rfl, ?_⟩
        refine ⟨_, rfl, ?_⟩
        refine ⟨_, _, rfl, (by first | assumption | exact Ow.divw64 (by omega) (by omega) | exact Ow.mul0 ⟨by omega, by omega⟩ | exact Ow.mul1 ⟨by omega, by omega⟩ | exact Ow.shl0 (by omega) (by omega) (by omega) | exact ⟨by omega, by omega⟩ | exact ⟨by omega, by omega, by omega⟩ | omega | (simp only [List.length_append, List.length_cons, List.length_nil]; omega) | (subst_vars; omega)), (Ow.Sz.mono z_l_bottom (by decide : 11 ≤ 8000)), fun l_by_2 h26 h27 h28 => ?_⟩
        refine Ow.gnmS (σ' := [_, _, _, _, _, _, _, _]) rfl ?_
        refine ⟨_, rfl, ?_⟩
        refine ⟨_, rfl, ?_⟩
        refine ⟨_, _, rfl, rfl, Ow.divz (by first | assumption | exact Ow.divw64 (by omega) (by omega) | exact Ow.mul0 ⟨by omega, by omega⟩ | exact Ow.mul1 ⟨by omega, by omega⟩ | exact Ow.shl0 (by omega) (by omega) (by omega) | exact ⟨by omega, by omega⟩ | exact ⟨by omega, by omega, by omega⟩ | omega | (simp only [List.length_append, List.length_cons, List.length_nil]; omega) | (subst_vars; omega)) h28 (by decide) (by decide), fun q_3 h_q_3 => ?_⟩
        have z_q_3 : Ow.Sz 31 q_3 := by rw [h_q_3]; exact (Ow.Sz.div (Ow.Sz.md h10 h11 z_it) (by first | assumption | exact Ow.divw64 (by omega) (by omega) | exact Ow.mul0 ⟨by omega, by omega⟩ | exact Ow.mul1 ⟨by omega, by omega⟩ | exact Ow.shl0 (by omega) (by omega) (by omega) | exact ⟨by omega, by omega⟩ | exact ⟨by omega, by omega, by omega⟩ | omega | (simp only [List.length_append, List.length_cons, List.length_nil]; omega) | (subst_vars; omega)))
        refine ⟨_, rfl, ?_⟩
        refine ⟨_, rfl, ?_⟩
        refine ⟨_, _, rfl, rfl, Ow.divz (by first | assumption | exact Ow.divw64 (by omega) (by omega) | exact Ow.mul0 ⟨by omega, by omega⟩ | exact Ow.mul1 ⟨by omega, by omega⟩ | exact Ow.shl0 (by omega) (by omega) (by omega) | exact ⟨by omega, by omega⟩ | exact ⟨by omega, by omega, by omega⟩ | omega | (simp only [List.length_append, List.length_cons, List.length_nil]; omega) | (subst_vars; omega)) h28 (by decide) (by decide), fun q_4 h_q_4 => ?_⟩
        have z_q_4 : Ow.Sz 11 q_4 := by rw [h_q_4]; exact (Ow.Sz.div z_l_bottom (by first | assumption | exact Ow.divw64 (by omega) (by omega) | exact Ow.mul0 ⟨by omega, by omega⟩ | exact Ow.mul1 ⟨by omega, by omega⟩ | exact Ow.shl0 (by omega) (by omega) (by omega) | exact ⟨by omega, by omega⟩ | exact ⟨by omega, by omega, by omega⟩ | omega | (simp only [List.length_append, List.length_cons, List.length_nil]; omega) | (subst_vars; omega)))
        refine ⟨by show 2 ≤ sizeLine; decide, fun p_8 h_p_8 => ?_⟩
        refine Ow.gnmS (σ' := [_, _, _, _, _, _, _, _]) rfl ?_
        refine ⟨_, rfl, ?_⟩
        refine ⟨_, _, _, _, _, rfl, (Ow.at_new h_p_8 upd_same), (by first | assumption | exact Ow.divw64 (by omega) (by omega) | exact Ow.mul0 ⟨by omega, by omega⟩ | exact Ow.mul1 ⟨by omega, by omega⟩ | exact Ow.shl0 (by omega) (by omega) (by omega) | exact ⟨by omega, by omega⟩ | exact ⟨by omega, by omega, by omega⟩ | omega | (simp only [List.length_append, List.length_cons, List.length_nil]; omega) | (subst_vars; omega)), (by first | assumption | exact Ow.divw64 (by omega) (by omega) | exact Ow.mul0 ⟨by omega, by omega⟩ | exact Ow.mul1 ⟨by omega, by omega⟩ | exact Ow.shl0 (by omega) (by omega) (by omega) | exact ⟨by omega, by omega⟩ | exact ⟨by omega, by omega, by omega⟩ | omega | (simp only [List.length_append, List.length_cons, List.length_nil]; omega) | (subst_vars; omega)), fun t_7 a2_7 n2_7 h29 h30 => ?_⟩
        refine ⟨rfl, ?_⟩
        refine ⟨_, rfl, ?_⟩
        refine Ow.ifeqi (fun h31 => ?_) (fun h31 => ?_)
        · refine ⟨_, rfl, ?_⟩
          refine ⟨by show 0 ≤ sizeLine; decide, fun p_9 h_p_9 => ?_⟩
          refine ⟨_, _, _, _, _, _, rfl, rfl, (SqL.of (Ow.at_new h_p_9 (Ow.at_mut (ne_of_none h3 h_p_2) (Ow.at_new h_p_8 (Ow.at_mut (ne_of_none h3 h_p_2) (Ow.at_mut (ne_of_none h3 h_p_2) (Ow.at_mut (ne_of_none h3 h_p_2) (Ow.at_new h_p_4 (Ow.at_mut (ne_of_none h3 h_p_2) (Ow.at_mut (ne_of_none h3 h_p_2) (Ow.at_new h_p_3 (Ow.at_new h_p_2 h3)))))))))))), (SqL.of upd_same), (Ow.Rws.new h_p_9 (Ow.Rws.mut (Ow.at_new h_p_8 upd_same) (Ow.Rws.new h_p_8 (Ow.Rws.mut upd_same (Ow.Rws.mut upd_same (Ow.Rws.mut (Ow.at_new h_p_4 upd_same) (Ow.Rws.new h_p_4 (Ow.Rws.mut upd_same (Ow.Rws.mut (Ow.at_new h_p_3 upd_same) (Ow.Rws.new h_p_3 (Ow.Rws.new h_p_2 h5))))))))))), Ow.Rws.nil, ?_⟩
          refine ⟨_, rfl, ?_⟩
          refine Ow.ifnd (fun h32 => ?_) (fun h32 => ?_)
          · refine ⟨_, rfl, ?_⟩
            refine ⟨_, rfl, ?_⟩
            refine ⟨by decide, ?_⟩
            refine Ow.ixrowL (SqL.of (Ow.at_new h_p_9 (Ow.at_mut (ne_of_none h3 h_p_2) (Ow.at_new h_p_8 (Ow.at_mut (ne_of_none h3 h_p_2) (Ow.at_mut (ne_of_none h3 h_p_2) (Ow.at_mut (ne_of_none h3 h_p_2) (Ow.at_new h_p_4 (Ow.at_mut (ne_of_none h3 h_p_2) (Ow.at_mut (ne_of_none h3 h_p_2) (Ow.at_new h_p_3 (Ow.at_new h_p_2 h3)))))))))))) (Ow.Rws.new h_p_9 (Ow.Rws.mut (Ow.at_new h_p_8 upd_same) (Ow.Rws.new h_p_8 (Ow.Rws.mut upd_same (Ow.Rws.mut upd_same (Ow.Rws.mut (Ow.at_new h_p_4 upd_same) (Ow.Rws.new h_p_4 (Ow.Rws.mut upd_same (Ow.Rws.mut (Ow.at_new h_p_3 upd_same) (Ow.Rws.new h_p_3 (Ow.Rws.new h_p_2 h5))))))))))) (by exact Ow.rows_ne (by assumption)) (fun tp_3 r_3 h_r_3 h_tp_3 => ?_)
            refine ⟨_, _, _, _, rfl, rfl, (SqT.of h_tp_3), (by first | rfl | decide), ?_⟩
            refine ⟨_, _, rfl, rfl, ?_⟩
            refine ⟨_, rfl, ?_⟩
            refine ⟨_, rfl, ?_⟩
            refine ⟨by decide, ?_⟩
            refine Ow.ixrowL (SqL.of (Ow.at_new h_p_9 (Ow.at_mut (ne_of_none h3 h_p_2) (Ow.at_new h_p_8 (Ow.at_mut (ne_of_none h3 h_p_2) (Ow.at_mut (ne_of_none h3 h_p_2) (Ow.at_mut (ne_of_none h3 h_p_2) (Ow.at_new h_p_4 (Ow.at_mut (ne_of_none h3 h_p_2) (Ow.at_mut (ne_of_none h3 h_p_2) (Ow.at_new h_p_3 (Ow.at_new h_p_2 h3)))))))))))) (Ow.Rws.new h_p_9 (Ow.Rws.mut (Ow.at_new h_p_8 upd_same) (Ow.Rws.new h_p_8 (Ow.Rws.mut upd_same (Ow.Rws.mut upd_same (Ow.Rws.mut (Ow.at_new h_p_4 upd_same) (Ow.Rws.new h_p_4 (Ow.Rws.mut upd_same (Ow.Rws.mut (Ow.at_new h_p_3 upd_same) (Ow.Rws.new h_p_3 (Ow.Rws.new h_p_2 h5))))))))))) (by exact Ow.rows_ne (by assumption)) (fun tp_4 r_4 h_r_4 h_tp_4 => ?_)
            obtain rfl : r_3 = r_4 := Option.some.inj (h_r_3.symm.trans h_r_4)
            refine ⟨_, _, _, _, rfl, rfl, (SqT.of h_tp_4), (by first | rfl | decide), ?_⟩
            refine ⟨by show 2 ≤ sizeLine; decide, fun p_10 h_p_10 => ?_⟩
            refine ⟨_, rfl, ?_⟩
            refine ⟨.inl ⟨rfl, _, (SqL.of (Ow.at_new h_p_10 (Ow.at_new h_p_9 (Ow.at_mut (ne_of_none h3 h_p_2) (Ow.at_new h_p_8 (Ow.at_mut (ne_of_none h3 h_p_2) (Ow.at_mut (ne_of_none h3 h_p_2) (Ow.at_mut (ne_of_none h3 h_p_2) (Ow.at_new h_p_4 (Ow.at_mut (ne_of_none h3 h_p_2) (Ow.at_mut (ne_of_none h3 h_p_2) (Ow.at_new h_p_3 (Ow.at_new h_p_2 h3)))))))))))))⟩, ?_⟩
            refine ⟨_, rfl, ?_⟩
            refine ⟨_, _, _, rfl, rfl, (Ow.at_new h_p_10 (Ow.at_new h_p_9 (Ow.at_mut (ne_of_none h3 h_p_2) (Ow.at_new h_p_8 (Ow.at_mut (ne_of_none h3 h_p_2) (Ow.at_mut (ne_of_none h3 h_p_2) (Ow.at_mut (ne_of_none h3 h_p_2) (Ow.at_new h_p_4 (Ow.at_mut (ne_of_none h3 h_p_2) (Ow.at_mut (ne_of_none h3 h_p_2) (Ow.at_new h_p_3 (Ow.at_new h_p_2 h3)))))))))))), (Ow.szl (by rw [(h5).len]; first | assumption | exact Ow.divw64 (by omega) (by omega) | exact Ow.mul0 ⟨by omega, by omega⟩ | exact Ow.mul1 ⟨by omega, by omega⟩ | exact Ow.shl0 (by omega) (by omega) (by omega) | exact ⟨by omega, by omega⟩ | exact ⟨by omega, by omega, by omega⟩ | omega | (simp only [List.length_append, List.length_cons, List.length_nil]; omega) | (subst_vars; omega))), ?_⟩
            exact ⟨p1, (rs ++ [(0 - r_3.1, r_3.2)]), (vs_rs ++ [V.ref p_10]), _, _, _, _, _, _, rfl, (Ow.same_mut (((Ow.same_mut ((Ow.same_mut (Ow.same_mut (Ow.same_mut ((Ow.same_mut (Ow.same_mut ((h2.trans (Ow.same_new h_p_2)).trans (Ow.same_new h_p_3)) (Same.free h2 h_p_2)) (Same.free h2 h_p_2)).trans (Ow.same_new h_p_4)) (Same.free h2 h_p_2)) (Same.free h2 h_p_2)) (Same.free h2 h_p_2)).trans (Ow.same_new h_p_8)) (Same.free h2 h_p_2)).trans (Ow.same_new h_p_9)).trans (Ow.same_new h_p_10)) h4), upd_same, h4, (Ow.Rws.snoc (r := (0 - r_3.1, r_3.2)) (Ow.Rws.mut (Ow.at_new h_p_10 (Ow.at_new h_p_9 (Ow.at_mut (ne_of_none h3 h_p_2) (Ow.at_new h_p_8 (Ow.at_mut (ne_of_none h3 h_p_2) (Ow.at_mut (ne_of_none h3 h_p_2) (Ow.at_mut (ne_of_none h3 h_p_2) (Ow.at_new h_p_4 (Ow.at_mut (ne_of_none h3 h_p_2) (Ow.at_mut (ne_of_none h3 h_p_2) (Ow.at_new h_p_3 (Ow.at_new h_p_2 h3)))))))))))) (Ow.Rws.new h_p_10 (Ow.Rws.new h_p_9 (Ow.Rws.mut (Ow.at_new h_p_8 upd_same) (Ow.Rws.new h_p_8 (Ow.Rws.mut upd_same (Ow.Rws.mut upd_same (Ow.Rws.mut (Ow.at_new h_p_4 upd_same) (Ow.Rws.new h_p_4 (Ow.Rws.mut upd_same (Ow.Rws.mut (Ow.at_new h_p_3 upd_same) (Ow.Rws.new h_p_3 (Ow.Rws.new h_p_2 h5))))))))))))) (Ow.at_mutT (Ow.at_new h_p_10 (Ow.at_new h_p_9 (Ow.at_mut (ne_of_none h3 h_p_2) (Ow.at_new h_p_8 (Ow.at_mut (ne_of_none h3 h_p_2) (Ow.at_mut (ne_of_none h3 h_p_2) (Ow.at_mut (ne_of_none h3 h_p_2) (Ow.at_new h_p_4 (Ow.at_mut (ne_of_none h3 h_p_2) (Ow.at_mut (ne_of_none h3 h_p_2) (Ow.at_new h_p_3 (Ow.at_new h_p_2 h3)))))))))))) upd_same)), (by first | (rw [List.length_append, List.length_singleton]; omega) | exact Ow.FrOk.snoc (by assumption) (Ow.red_ok (t := l_top) (b := l_bottom) (by omega) (by omega) (by omega) (by omega) (by assumption) (by dsimp only; assumption) (by dsimp only; assumption)) | exact Ow.FrOk.neg (by assumption) (by assumption)), (by first | (rw [List.length_append, List.length_singleton]; omega) | exact Ow.FrOk.snoc (by assumption) (Ow.red_ok (t := l_top) (b := l_bottom) (by omega) (by omega) (by omega) (by omega) (by assumption) (by dsimp only; assumption) (by dsimp only; assumption)) | exact Ow.FrOk.neg (by assumption) (by assumption)), trivial⟩
          · refine ⟨_, rfl, ?_⟩
            refine ⟨.inl ⟨rfl, _, (SqL.of (Ow.at_new h_p_9 (Ow.at_mut (ne_of_none h3 h_p_2) (Ow.at_new h_p_8 (Ow.at_mut (ne_of_none h3 h_p_2) (Ow.at_mut (ne_of_none h3 h_p_2) (Ow.at_mut (ne_of_none h3 h_p_2) (Ow.at_new h_p_4 (Ow.at_mut (ne_of_none h3 h_p_2) (Ow.at_mut (ne_of_none h3 h_p_2) (Ow.at_new h_p_3 (Ow.at_new h_p_2 h3))))))))))))⟩, ?_⟩
            refine ⟨_, rfl, ?_⟩
            refine ⟨_, _, _, rfl, rfl, (Ow.at_new h_p_9 (Ow.at_mut (ne_of_none h3 h_p_2) (Ow.at_new h_p_8 (Ow.at_mut (ne_of_none h3 h_p_2) (Ow.at_mut (ne_of_none h3 h_p_2) (Ow.at_mut (ne_of_none h3 h_p_2) (Ow.at_new h_p_4 (Ow.at_mut (ne_of_none h3 h_p_2) (Ow.at_mut (ne_of_none h3 h_p_2) (Ow.at_new h_p_3 (Ow.at_new h_p_2 h3))))))))))), (Ow.szl (by rw [(h5).len]; first | assumption | exact Ow.divw64 (by omega) (by omega) | exact Ow.mul0 ⟨by omega, by omega⟩ | exact Ow.mul1 ⟨by omega, by omega⟩ | exact Ow.shl0 (by omega) (by omega) (by omega) | exact ⟨by omega, by omega⟩ | exact ⟨by omega, by omega, by omega⟩ | omega | (simp only [List.length_append, List.length_cons, List.length_nil]; omega) | (subst_vars; omega))), ?_⟩
            exact ⟨p1, (rs ++ [(q_3, q_4)]), (vs_rs ++ [V.ref p_8]), _, _, _, _, _, _, rfl, (Ow.same_mut ((Ow.same_mut ((Ow.same_mut (Ow.same_mut (Ow.same_mut ((Ow.same_mut (Ow.same_mut ((h2.trans (Ow.same_new h_p_2)).trans (Ow.same_new h_p_3)) (Same.free h2 h_p_2)) (Same.free h2 h_p_2)).trans (Ow.same_new h_p_4)) (Same.free h2 h_p_2)) (Same.free h2 h_p_2)) (Same.free h2 h_p_2)).trans (Ow.same_new h_p_8)) (Same.free h2 h_p_2)).trans (Ow.same_new h_p_9)) h4), upd_same, h4, (Ow.Rws.snoc (r := (q_3, q_4)) (Ow.Rws.mut (Ow.at_new h_p_9 (Ow.at_mut (ne_of_none h3 h_p_2) (Ow.at_new h_p_8 (Ow.at_mut (ne_of_none h3 h_p_2) (Ow.at_mut (ne_of_none h3 h_p_2) (Ow.at_mut (ne_of_none h3 h_p_2) (Ow.at_new h_p_4 (Ow.at_mut (ne_of_none h3 h_p_2) (Ow.at_mut (ne_of_none h3 h_p_2) (Ow.at_new h_p_3 (Ow.at_new h_p_2 h3))))))))))) (Ow.Rws.new h_p_9 (Ow.Rws.mut (Ow.at_new h_p_8 upd_same) (Ow.Rws.new h_p_8 (Ow.Rws.mut upd_same (Ow.Rws.mut upd_same (Ow.Rws.mut (Ow.at_new h_p_4 upd_same) (Ow.Rws.new h_p_4 (Ow.Rws.mut upd_same (Ow.Rws.mut (Ow.at_new h_p_3 upd_same) (Ow.Rws.new h_p_3 (Ow.Rws.new h_p_2 h5)))))))))))) (Ow.at_mutT (Ow.at_new h_p_9 (Ow.at_mut (ne_of_none h3 h_p_2) (Ow.at_new h_p_8 (Ow.at_mut (ne_of_none h3 h_p_2) (Ow.at_mut (ne_of_none h3 h_p_2) (Ow.at_mut (ne_of_none h3 h_p_2) (Ow.at_new h_p_4 (Ow.at_mut (ne_of_none h3 h_p_2) (Ow.at_mut (ne_of_none h3 h_p_2) (Ow.at_new h_p_3 (Ow.at_new h_p_2 h3))))))))))) (Ow.at_new h_p_9 (Ow.at_mutT (Ow.at_new h_p_8 upd_same) upd_same)))), (by first | (rw [List.length_append, List.length_singleton]; omega) | exact Ow.FrOk.snoc (by assumption) (Ow.red_ok (t := l_top) (b := l_bottom) (by omega) (by omega) (by omega) (by omega) (by assumption) (by dsimp only; assumption) (by dsimp only; assumption)) | exact Ow.FrOk.neg (by assumption) (by assumption)), (by first | (rw [List.length_append, List.length_singleton]; omega) | exact Ow.FrOk.snoc (by assumption) (Ow.red_ok (t := l_top) (b := l_bottom) (by omega) (by omega) (by omega) (by omega) (by assumption) (by dsimp only; assumption) (by dsimp only; assumption)) | exact Ow.FrOk.neg (by assumption) (by assumption)), trivial⟩
        · refine iteF ?_
          refine ⟨_, rfl, ?_⟩
          refine ⟨.inl ⟨rfl, _, (SqL.of (Ow.at_mut (ne_of_none h3 h_p_2) (Ow.at_new h_p_8 (Ow.at_mut (ne_of_none h3 h_p_2) (Ow.at_mut (ne_of_none h3 h_p_2) (Ow.at_mut (ne_of_none h3 h_p_2) (Ow.at_new h_p_4 (Ow.at_mut (ne_of_none h3 h_p_2) (Ow.at_mut (ne_of_none h3 h_p_2) (Ow.at_new h_p_3 (Ow.at_new h_p_2 h3)))))))))))⟩, ?_⟩
          refine ⟨_, rfl, ?_⟩
          refine ⟨_, _, _, rfl, rfl, (Ow.at_mut (ne_of_none h3 h_p_2) (Ow.at_new h_p_8 (Ow.at_mut (ne_of_none h3 h_p_2) (Ow.at_mut (ne_of_none h3 h_p_2) (Ow.at_mut (ne_of_none h3 h_p_2) (Ow.at_new h_p_4 (Ow.at_mut (ne_of_none h3 h_p_2) (Ow.at_mut (ne_of_none h3 h_p_2) (Ow.at_new h_p_3 (Ow.at_new h_p_2 h3)))))))))), (Ow.szl (by rw [(h5).len]; first | assumption | exact Ow.divw64 (by omega) (by omega) | exact Ow.mul0 ⟨by omega, by omega⟩ | exact Ow.mul1 ⟨by omega, by omega⟩ | exact Ow.shl0 (by omega) (by omega) (by omega) | exact ⟨by omega, by omega⟩ | exact ⟨by omega, by omega, by omega⟩ | omega | (simp only [List.length_append, List.length_cons, List.length_nil]; omega) | (subst_vars; omega))), ?_⟩
          exact ⟨p1, (rs ++ [(q_3, q_4)]), (vs_rs ++ [V.ref p_8]), _, _, _, _, _, _, rfl, (Ow.same_mut (Ow.same_mut ((Ow.same_mut (Ow.same_mut (Ow.same_mut ((Ow.same_mut (Ow.same_mut ((h2.trans (Ow.same_new h_p_2)).trans (Ow.same_new h_p_3)) (Same.free h2 h_p_2)) (Same.free h2 h_p_2)).trans (Ow.same_new h_p_4)) (Same.free h2 h_p_2)) (Same.free h2 h_p_2)) (Same.free h2 h_p_2)).trans (Ow.same_new h_p_8)) (Same.free h2 h_p_2)) h4), upd_same, h4, (Ow.Rws.snoc (r := (q_3, q_4)) (Ow.Rws.mut (Ow.at_mut (ne_of_none h3 h_p_2) (Ow.at_new h_p_8 (Ow.at_mut (ne_of_none h3 h_p_2) (Ow.at_mut (ne_of_none h3 h_p_2) (Ow.at_mut (ne_of_none h3 h_p_2) (Ow.at_new h_p_4 (Ow.at_mut (ne_of_none h3 h_p_2) (Ow.at_mut (ne_of_none h3 h_p_2) (Ow.at_new h_p_3 (Ow.at_new h_p_2 h3)))))))))) (Ow.Rws.mut (Ow.at_new h_p_8 upd_same) (Ow.Rws.new h_p_8 (Ow.Rws.mut upd_same (Ow.Rws.mut upd_same (Ow.Rws.mut (Ow.at_new h_p_4 upd_same) (Ow.Rws.new h_p_4 (Ow.Rws.mut upd_same (Ow.Rws.mut (Ow.at_new h_p_3 upd_same) (Ow.Rws.new h_p_3 (Ow.Rws.new h_p_2 h5))))))))))) (Ow.at_mutT (Ow.at_mut (ne_of_none h3 h_p_2) (Ow.at_new h_p_8 (Ow.at_mut (ne_of_none h3 h_p_2) (Ow.at_mut (ne_of_none h3 h_p_2) (Ow.at_mut (ne_of_none h3 h_p_2) (Ow.at_new h_p_4 (Ow.at_mut (ne_of_none h3 h_p_2) (Ow.at_mut (ne_of_none h3 h_p_2) (Ow.at_new h_p_3 (Ow.at_new h_p_2 h3)))))))))) (Ow.at_mutT (Ow.at_new h_p_8 upd_same) upd_same))), (by first | (rw [List.length_append, List.length_singleton]; omega) | exact Ow.FrOk.snoc (by assumption) (Ow.red_ok (t := l_top) (b := l_bottom) (by omega) (by omega) (by omega) (by omega) (by assumption) (by dsimp only; assumption) (by dsimp only; assumption)) | exact Ow.FrOk.neg (by assumption) (by assumption)), (by first | (rw [List.length_append, List.length_singleton]; omega) | exact Ow.FrOk.snoc (by assumption) (Ow.red_ok (t := l_top) (b := l_bottom) (by omega) (by omega) (by omega) (by omega) (by assumption) (by dsimp only; assumption) (by dsimp only; assumption)) | exact Ow.FrOk.neg (by assumption) (by assumption)), trivial⟩
    · rintro _ Hn_2 ⟨p1_2, rs_2, vs_rs_2, _, _, _, _, _, _, rfl, h33, h34, h35, h36, h37, h38, _⟩
      refine ⟨_, rfl, ?_⟩
      exact kont rs_2 (by first | assumption | exact Ow.divw64 (by omega) (by omega) | exact Ow.mul0 ⟨by omega, by omega⟩ | exact Ow.mul1 ⟨by omega, by omega⟩ | exact Ow.shl0 (by omega) (by omega) (by omega) | exact ⟨by omega, by omega⟩ | exact ⟨by omega, by omega, by omega⟩ | omega | (simp only [List.length_append, List.length_cons, List.length_nil]; omega) | (subst_vars; omega)) (by first | assumption | exact Ow.divw64 (by omega) (by omega) | exact Ow.mul0 ⟨by omega, by omega⟩ | exact Ow.mul1 ⟨by omega, by omega⟩ | exact Ow.shl0 (by omega) (by omega) (by omega) | exact ⟨by omega, by omega⟩ | exact ⟨by omega, by omega, by omega⟩ | omega | (simp only [List.length_append, List.length_cons, List.length_nil]; omega) | (subst_vars; omega)) _ _ _ h33 h35 h34 h36
theorem ok_l_summed (T : Tx K mg) : FnOk P w K mg base CX0 1 T.d_l_summed.f T.d_l_summed.fd ["_law_row"] (sp_l_summed T) := by
  refine T.d_l_summed.F.ok sc_l_summed (fun vs H Q E h => ?_) (fun cdv A outer s H vs Q E hr h => ?_)
  · obtain ⟨row, rs, vs_rs, rfl, _⟩ := h
    rfl
  · obtain ⟨row, rs, vs_rs, rfl, ⟨c0, rc0⟩, c1, c2, kont⟩ := h
    refine ⟨_, (pss_cons (ps_set (i := 1) sc_l_summed.nd rfl (Or.inl rfl) pe_int)
        (pss_cons (ps_set (i := 2) sc_l_summed.nd rfl (Or.inl rfl) pe_int)
        (pss_cons (ps_for PassesOwn.never rfl (pi_list (pv 0)) (pg_name (i := 3) sc_l_summed.nd rfl (Or.inl rfl)) (pss_cons (ps_set (i := 1) sc_l_summed.nd rfl (Or.inl rfl) (Ow.pe_nmi (pe_op op_add (pe_op Ow.op_mulN (pv 1) (pe_ix ix_tup (pv 3) pe_int (fun _ _ => rfl))) (pe_op Ow.op_mulN (pe_ix ix_tup (pv 3) pe_int (fun _ _ => rfl)) (pv 2)))))
        (pss_one (ps_set (i := 2) sc_l_summed.nd rfl (Or.inl rfl) (pe_op Ow.op_mulN (pv 2) (pe_ix ix_tup (pv 3) pe_int (fun _ _ => rfl)))))))
        (pss_one (ps_ret (pe_lst (pa_cons (pv 1) (pa_cons (pv 2) pa_nil)))))))), ?_⟩
    refine ⟨_, rfl, ?_⟩
    refine ⟨_, rfl, ⟨_, (SqL.of c0)⟩, ?_⟩
    refine for_list (K := K) (a := row) (xs := vs_rs) (fun ixv σ2 H2 => ∃ (t : Int) (b : Int) (v_3 : Option V), σ2 = [some (.ref row), some (.int (t)), some (.int (b)), v_3] ∧ Same H H2 ∧ (t = Ow.fT (rs.take ixv)) ∧ (b = Ow.fP (rs.take ixv)) ∧ (Ow.Sz 700 t) ∧ (Ow.Sz 700 b) ∧ True) ⟨0, 1, _, rfl, (Same.refl _), (by rfl), (by rfl), (Ow.Sz.mono (Ow.Sz.lit (n := 1) (i := 0) (by decide)) (by decide : 1 ≤ 700)), (Ow.Sz.mono (Ow.Sz.lit (n := 1) (i := 1) (by decide)) (by decide : 1 ≤ 700)), trivial⟩ (fun i σ2 H2 _ hz => ?_) ?_ ?_
    · obtain ⟨t, b, _, rfl, h1, h2, h3, h4, h5, _⟩ := hz
      exact (SqL.of (h1 _ _ c0))
    · rintro i xit _ Hn h6 ⟨t_2, b_2, _, rfl, h7, h8, h9, h10, h11, _⟩
      obtain ⟨tp, r, rfl, h_tp, h_r⟩ := Ow.Rws.get (Ow.Rws.same h7 rc0) h6
      have z0_r : Ow.Sz 32 r.1 := Ow.r1_sz (Ow.FrOk.get (by first | assumption | exact Ow.FrOk.rev (by assumption)) h_r)
      have z1_r : Ow.Sz 11 r.2 := Ow.r2_sz (Ow.FrOk.get (by first | assumption | exact Ow.FrOk.rev (by assumption)) h_r)
      have hit := (Ow.FrOk.get (by first | assumption | exact Ow.FrOk.rev (by assumption)) h_r)
      have hft := h8
      have hfb := h9
      have hst := Ow.sum_turn2 h_r hft hfb
      have hlt := (List.getElem?_eq_some_iff.mp h_r).1
      refine ⟨_, rfl, ?_⟩
      refine ⟨_, rfl, ?_⟩
      refine ⟨_, _, _, _, rfl, rfl, (SqT.of h_tp), (by first | rfl | decide), ?_⟩
      refine ⟨_, _, rfl, rfl, (.inr (Ow.mulx h10 z1_r (by decide))), fun m h_m => ?_⟩
      have z_m : Ow.Sz 711 m := by rw [h_m]; exact (Ow.Sz.mul h10 z1_r)
      refine ⟨_, rfl, ?_⟩
      refine ⟨_, _, _, _, rfl, rfl, (SqT.of h_tp), (by first | rfl | decide), ?_⟩
      refine ⟨_, rfl, ?_⟩
      refine ⟨_, _, rfl, rfl, (.inr (Ow.mulx z0_r h11 (by decide))), fun m_2 h_m_2 => ?_⟩
      have z_m_2 : Ow.Sz 732 m_2 := by rw [h_m_2]; exact (Ow.Sz.mul z0_r h11)
      refine ⟨_, _, rfl, rfl, ?_⟩
      refine ⟨_, rfl, fun l_top h_l_top => ?_⟩
      have z_l_top : Ow.Sz 733 l_top := by rw [h_l_top]; exact (Ow.Sz.add (Ow.Sz.mono z_m (by decide : 711 ≤ 732)) z_m_2)
      refine ⟨_, rfl, ?_⟩
      refine ⟨_, rfl, ?_⟩
      refine ⟨_, _, _, _, rfl, rfl, (SqT.of h_tp), (by first | rfl | decide), ?_⟩
      refine ⟨_, _, rfl, rfl, (.inr (Ow.mulx h11 z1_r (by decide))), fun l_bottom h_l_bottom => ?_⟩
      have z_l_bottom : Ow.Sz 711 l_bottom := by rw [h_l_bottom]; exact (Ow.Sz.mul h11 z1_r)
      exact ⟨l_top, l_bottom, _, rfl, h7, (by first | (rw [← hst.1]; omega) | (rw [← hst.2]; omega) | (rw [show l_top = Ow.fT (List.take (i + 1) rs) by rw [← hst.1]; omega]; exact (Ow.fT_sz (Ow.FrOk.take c1 _) (by rw [List.length_take]; omega)).mono (by decide)) | (rw [show l_bottom = Ow.fP (List.take (i + 1) rs) by rw [← hst.2]; omega]; exact (Ow.fP_sz (Ow.FrOk.take c1 _) (by rw [List.length_take]; omega)).mono (by decide))), (by first | (rw [← hst.1]; omega) | (rw [← hst.2]; omega) | (rw [show l_top = Ow.fT (List.take (i + 1) rs) by rw [← hst.1]; omega]; exact (Ow.fT_sz (Ow.FrOk.take c1 _) (by rw [List.length_take]; omega)).mono (by decide)) | (rw [show l_bottom = Ow.fP (List.take (i + 1) rs) by rw [← hst.2]; omega]; exact (Ow.fP_sz (Ow.FrOk.take c1 _) (by rw [List.length_take]; omega)).mono (by decide))), (by first | (rw [← hst.1]; omega) | (rw [← hst.2]; omega) | (rw [show l_top = Ow.fT (List.take (i + 1) rs) by rw [← hst.1]; omega]; exact (Ow.fT_sz (Ow.FrOk.take c1 _) (by rw [List.length_take]; omega)).mono (by decide)) | (rw [show l_bottom = Ow.fP (List.take (i + 1) rs) by rw [← hst.2]; omega]; exact (Ow.fP_sz (Ow.FrOk.take c1 _) (by rw [List.length_take]; omega)).mono (by decide))), (by first | (rw [← hst.1]; omega) | (rw [← hst.2]; omega) | (rw [show l_top = Ow.fT (List.take (i + 1) rs) by rw [← hst.1]; omega]; exact (Ow.fT_sz (Ow.FrOk.take c1 _) (by rw [List.length_take]; omega)).mono (by decide)) | (rw [show l_bottom = Ow.fP (List.take (i + 1) rs) by rw [← hst.2]; omega]; exact (Ow.fP_sz (Ow.FrOk.take c1 _) (by rw [List.length_take]; omega)).mono (by decide))), trivial⟩
    · rintro _ Hn_2 ⟨t_3, b_3, _, rfl, h12, h13, h14, h15, h16, _⟩
      have hlen := (rc0).len
      have hft := h13
      have hfb := h14
      rw [hlen, List.take_length] at hft hfb
      refine ⟨_, rfl, ?_⟩
      refine ⟨_, rfl, ?_⟩
      refine ⟨by show 2 ≤ sizeLine; decide, fun p h_p => ?_⟩
      exact kont t_3 b_3 (by assumption) (by assumption) h15 h16 _ _ (h12.trans (Ow.same_new h_p)) (Same.free h12 h_p) upd_same
theorem ok_Down_adjust (T : Tx K mg) : FnOk P w K mg base CX0 1 T.d_Down_adjust.f T.d_Down_adjust.fd ["self", "quotient", "rest", "divisor", "negative"] (sp_Down_adjust T) := by
  refine T.d_Down_adjust.F.ok sc_Down_adjust (fun vs H Q E h => ?_) (fun cdv A outer s H vs Q E hr h => ?_)
  · obtain ⟨self, quotient, rest, divisor, negative, dx_self, rfl, _⟩ := h
    rfl
  · obtain ⟨self, quotient, rest, divisor, negative, dx_self, rfl, c0, kont⟩ := h
    refine ⟨_, (pss_one (ps_ret (pe_and (pv 4) (pe_one (pe_cmpR op_gt (pv 2) pe_int (nomark _)))))), ?_⟩
    refine ⟨_, rfl, ?_⟩
    refine ⟨_, rfl, ?_⟩
    refine Ow.ifb (fun h1 => ?_) (fun h1 => ?_)
    · refine ⟨_, rfl, ?_⟩
      refine ⟨_, _, rfl, rfl, ?_⟩
      refine Ow.eqb (b := Ow.adj .Down quotient rest divisor negative) (by first | (unfold Ow.adj; simp only [decide_eq_false (by omega : ¬ 0 < rest), Bool.false_and]) | (unfold Ow.adj; simp only [decide_eq_true (by omega : 0 < rest), Bool.true_and]) | (unfold Ow.adj; rw [if_pos (by omega), h_r]; exact decide_eq_decide.mpr ⟨fun h => V.int.inj h, fun h => by rw [h]⟩) | (unfold Ow.adj; rw [if_neg (by omega)]) | (unfold Ow.adj; simp_all; done)) ?_
      exact kont
    · refine Ow.eqb (b := Ow.adj .Down quotient rest divisor negative) (by first | (unfold Ow.adj; simp only [decide_eq_false (by omega : ¬ 0 < rest), Bool.false_and]) | (unfold Ow.adj; simp only [decide_eq_true (by omega : 0 < rest), Bool.true_and]) | (unfold Ow.adj; rw [if_pos (by omega), h_r]; exact decide_eq_decide.mpr ⟨fun h => V.int.inj h, fun h => by rw [h]⟩) | (unfold Ow.adj; rw [if_neg (by omega)]) | (unfold Ow.adj; simp_all; done)) ?_
      exact kont
theorem ok_Up_adjust (T : Tx K mg) : FnOk P w K mg base CX0 1 T.d_Up_adjust.f T.d_Up_adjust.fd ["self", "quotient", "rest", "divisor", "negative"] (sp_Up_adjust T) := by
  refine T.d_Up_adjust.F.ok sc_Up_adjust (fun vs H Q E h => ?_) (fun cdv A outer s H vs Q E hr h => ?_)
  · obtain ⟨self, quotient, rest, divisor, negative, dx_self, rfl, _⟩ := h
    rfl
  · obtain ⟨self, quotient, rest, divisor, negative, dx_self, rfl, c0, kont⟩ := h
    refine ⟨_, (pss_one (ps_ret (pe_and (pe_cmpR op_gt (pv 2) pe_int (nomark _)) (pe_one (pe_not (pv 4)))))), ?_⟩
    refine ⟨_, rfl, ?_⟩
    refine ⟨_, _, rfl, rfl, ?_⟩
    refine ⟨_, rfl, ?_⟩
    refine Ow.ifd (fun h1 => ?_) (fun h1 => ?_)
    · refine ⟨_, rfl, ?_⟩
      refine ⟨_, rfl, ?_⟩
      refine Ow.eqb (b := Ow.adj .Up quotient rest divisor negative) (by first | (unfold Ow.adj; simp only [decide_eq_false (by omega : ¬ 0 < rest), Bool.false_and]) | (unfold Ow.adj; simp only [decide_eq_true (by omega : 0 < rest), Bool.true_and]) | (unfold Ow.adj; rw [if_pos (by omega), h_r]; exact decide_eq_decide.mpr ⟨fun h => V.int.inj h, fun h => by rw [h]⟩) | (unfold Ow.adj; rw [if_neg (by omega)]) | (unfold Ow.adj; simp_all; done)) ?_
      exact kont
    · refine Ow.eqb (b := Ow.adj .Up quotient rest divisor negative) (by first | (unfold Ow.adj; simp only [decide_eq_false (by omega : ¬ 0 < rest), Bool.false_and]) | (unfold Ow.adj; simp only [decide_eq_true (by omega : 0 < rest), Bool.true_and]) | (unfold Ow.adj; rw [if_pos (by omega), h_r]; exact decide_eq_decide.mpr ⟨fun h => V.int.inj h, fun h => by rw [h]⟩) | (unfold Ow.adj; rw [if_neg (by omega)]) | (unfold Ow.adj; simp_all; done)) ?_
      exact kont
theorem ok_Way_adjust (T : Tx K mg) : FnOk P w K mg base CX0 1 T.d_Way_adjust.f T.d_Way_adjust.fd ["self", "quotient", "rest", "divisor", "negative"] (sp_Way_adjust T) := by
  refine T.d_Way_adjust.F.ok sc_Way_adjust (fun vs H Q E h => ?_) (fun cdv A outer s H vs Q E hr h => ?_)
  · obtain ⟨self, quotient, rest, divisor, negative, dx_self, rfl, _⟩ := h
    rfl
  · obtain ⟨self, quotient, rest, divisor, negative, dx_self, rfl, c0, kont⟩ := h
    refine ⟨_, (pss_one (ps_ret pe_bl)), ?_⟩
    refine Ow.eqb (b := Ow.adj .Cut quotient rest divisor negative) (by first | (unfold Ow.adj; simp only [decide_eq_false (by omega : ¬ 0 < rest), Bool.false_and]) | (unfold Ow.adj; simp only [decide_eq_true (by omega : 0 < rest), Bool.true_and]) | (unfold Ow.adj; rw [if_pos (by omega), h_r]; exact decide_eq_decide.mpr ⟨fun h => V.int.inj h, fun h => by rw [h]⟩) | (unfold Ow.adj; rw [if_neg (by omega)]) | (unfold Ow.adj; simp_all; done)) ?_
    exact kont
theorem ok_Near_adjust (T : Tx K mg) : FnOk P w K mg base CX0 1 T.d_Near_adjust.f T.d_Near_adjust.fd ["self", "quotient", "rest", "divisor", "negative"] (sp_Near_adjust T) := by
  refine T.d_Near_adjust.F.ok sc_Near_adjust (fun vs H Q E h => ?_) (fun cdv A outer s H vs Q E hr h => ?_)
  · obtain ⟨self, quotient, rest, divisor, negative, dx_self, rfl, _⟩ := h
    rfl
  · obtain ⟨self, quotient, rest, divisor, negative, dx_self, rfl, c0, kont⟩ := h
    refine ⟨_, (pss_cons (ps_if (pt_cmpR op_eq (pv 2) (pe_op op_sub (pv 3) (pv 2)) (nomark _)) (pss_one (ps_ret (pe_cmpR op_eq (pe_op Ow.op_modN (pv 1) pe_int) pe_int (nomark _)))) pss_nil)
        (pss_one (ps_ret (pe_cmpR op_gt (pv 2) (pe_op op_sub (pv 3) (pv 2)) (nomark _))))), ?_⟩
    refine ⟨_, rfl, ?_⟩
    refine ⟨_, rfl, ?_⟩
    refine ⟨_, rfl, ?_⟩
    refine ⟨_, _, rfl, rfl, ?_⟩
    refine ⟨rfl, ?_⟩
    refine ⟨_, rfl, ?_⟩
    refine Ow.ifeqi (fun h1 => ?_) (fun h1 => ?_)
    · refine ⟨_, rfl, ?_⟩
      refine ⟨_, _, rfl, rfl, (by first | assumption | exact Ow.divw64 (by omega) (by omega) | exact Ow.mul0 ⟨by omega, by omega⟩ | exact Ow.mul1 ⟨by omega, by omega⟩ | exact Ow.shl0 (by omega) (by omega) (by omega) | exact ⟨by omega, by omega⟩ | exact ⟨by omega, by omega, by omega⟩ | omega | (simp only [List.length_append, List.length_cons, List.length_nil]; omega) | (subst_vars; omega)), fun r h_r h0_r h1_r => ?_⟩
      refine ⟨rfl, ?_⟩
      refine Ow.eqb (b := Ow.adj .Near quotient rest divisor negative) (by first | (unfold Ow.adj; simp only [decide_eq_false (by omega : ¬ 0 < rest), Bool.false_and]) | (unfold Ow.adj; simp only [decide_eq_true (by omega : 0 < rest), Bool.true_and]) | (unfold Ow.adj; rw [if_pos (by omega), h_r]; exact decide_eq_decide.mpr ⟨fun h => V.int.inj h, fun h => by rw [h]⟩) | (unfold Ow.adj; rw [if_neg (by omega)]) | (unfold Ow.adj; simp_all; done)) ?_
      exact kont
    · refine ⟨_, rfl, ?_⟩
      refine ⟨_, rfl, ?_⟩
      refine ⟨_, rfl, ?_⟩
      refine ⟨_, _, rfl, rfl, ?_⟩
      refine ⟨_, _, rfl, rfl, ?_⟩
      refine Ow.eqb (b := Ow.adj .Near quotient rest divisor negative) (by first | (unfold Ow.adj; simp only [decide_eq_false (by omega : ¬ 0 < rest), Bool.false_and]) | (unfold Ow.adj; simp only [decide_eq_true (by omega : 0 < rest), Bool.true_and]) | (unfold Ow.adj; rw [if_pos (by omega), h_r]; exact decide_eq_decide.mpr ⟨fun h => V.int.inj h, fun h => by rw [h]⟩) | (unfold Ow.adj; rw [if_neg (by omega)]) | (unfold Ow.adj; simp_all; done)) ?_
      exact kont
theorem ok_Way_rounded (T : Tx K mg) : FnOk P w K mg base CX0 2 T.d_Way_rounded.f T.d_Way_rounded.fd ["self", "top", "bottom"] (sp_Way_rounded T) := by
  refine T.d_Way_rounded.F.ok sc_Way_rounded (fun vs H Q E h => ?_) (fun cdv A outer s H vs Q E hr h => ?_)
  · obtain ⟨self, top, bottom, wy, dx_self, rfl, _⟩ := h
    rfl
  · obtain ⟨self, top, bottom, wy, dx_self, rfl, c0, c1, c2, c3, kont⟩ := h
    refine ⟨_, (pss_cons (ps_asg (pe_callB Ow.call_dm (by rfl) T.z_divmod (by decide +kernel) (pa_cons (Ow.pe_nmi (pe_callB call_abs (by rfl) T.z_abs (by decide +kernel) (pa_cons (pv 1) pa_nil))) (pa_cons (pv 2) pa_nil))) (pg_tup rfl (pgs_cons (pg_name (i := 3) sc_Way_rounded.nd rfl (Or.inl rfl)) (pgs_cons (pg_name (i := 4) sc_Way_rounded.nd rfl (Or.inl rfl)) pgs_nil))))
        (pss_cons (ps_if (pt_val (Ow.pe_methA (R := fun C sp => (C = T.k_Down.C ∧ sp = sp_Down_adjust T) ∨ (C = T.k_Up.C ∧ sp = sp_Up_adjust T) ∨ (C = T.k_Cut.C ∧ sp = sp_Way_adjust T) ∨ (C = T.k_Near.C ∧ sp = sp_Near_adjust T)) (pv 0) (Ow.mal_or (Ow.mal_one ⟨_, _, _, _, T.k_Down.cl, T.mt_Down_adjust, Ow.ok_Down_adjust T, hr.mono (by decide : 1 ≤ 1), T.d_Down_adjust.b⟩) (Ow.mal_or (Ow.mal_one ⟨_, _, _, _, T.k_Up.cl, T.mt_Up_adjust, Ow.ok_Up_adjust T, hr.mono (by decide : 1 ≤ 1), T.d_Up_adjust.b⟩) (Ow.mal_or (Ow.mal_one ⟨_, _, _, _, T.k_Cut.cl, T.mt_Cut_adjust, Ow.ok_Way_adjust T, hr.mono (by decide : 1 ≤ 1), T.d_Way_adjust.b⟩) (Ow.mal_one ⟨_, _, _, _, T.k_Near.cl, T.mt_Near_adjust, Ow.ok_Near_adjust T, hr.mono (by decide : 1 ≤ 1), T.d_Near_adjust.b⟩)))) pass0 (pa_cons (pv 3) (pa_cons (pv 4) (pa_cons (pv 2) (pa_cons (pe_cmpR op_lt (pv 1) pe_int (nomark _)) pa_nil)))))) (pss_one (ps_set (i := 3) sc_Way_rounded.nd rfl (Or.inl rfl) (Ow.pe_nmi (pe_op op_add (pv 3) pe_int)))) pss_nil)
        (pss_cons (ps_if (pt_cmpR op_lt (pv 1) pe_int (nomark _)) (pss_one (ps_ret (pe_op op_sub pe_int (pv 3)))) pss_nil)
        (pss_one (ps_ret (pv 3)))))), ?_⟩
    cases wy
    · refine ⟨_, rfl, ?_⟩
      refine ⟨_, rfl, ?_⟩
      refine ⟨_, rfl, fun ab h_ab => ?_⟩
      have hm_ab := Ow.abs_ite h_ab
      refine ⟨_, rfl, ?_⟩
      refine ⟨_, _, rfl, (Ow.dmz (by first | assumption | exact Ow.divw64 (by omega) (by omega) | exact Ow.mul0 ⟨by omega, by omega⟩ | exact Ow.mul1 ⟨by omega, by omega⟩ | exact Ow.shl0 (by omega) (by omega) (by omega) | exact ⟨by omega, by omega⟩ | exact ⟨by omega, by omega, by omega⟩ | omega | (simp only [List.length_append, List.length_cons, List.length_nil]; omega) | (subst_vars; omega)) (Ow.Sz.abs c1 h_ab) (by decide)), fun q r p h_q h_r h0_r h1_r h_p => ?_⟩
      have z_q : Ow.Sz 800 q := by rw [h_q]; exact Ow.Sz.div (Ow.Sz.abs c1 h_ab) (by first | assumption | exact Ow.divw64 (by omega) (by omega) | exact Ow.mul0 ⟨by omega, by omega⟩ | exact Ow.mul1 ⟨by omega, by omega⟩ | exact Ow.shl0 (by omega) (by omega) (by omega) | exact ⟨by omega, by omega⟩ | exact ⟨by omega, by omega, by omega⟩ | omega | (simp only [List.length_append, List.length_cons, List.length_nil]; omega) | (subst_vars; omega))
      refine ⟨_, _, rfl, (SqT.of upd_same), rfl, ?_⟩
      refine ⟨_, _, rfl, ?_⟩
      refine ⟨_, _, rfl, ?_⟩
      refine ⟨rfl, ?_⟩
      refine ⟨_, rfl, ?_⟩
      refine ⟨_, _, _, _, _, rfl, .inl ⟨rfl, rfl⟩, (Ow.at_new h_p c0), rfl, ?_⟩
      refine ⟨_, rfl, ?_⟩
      refine ⟨_, rfl, ?_⟩
      refine ⟨_, rfl, ?_⟩
      refine ⟨_, rfl, ?_⟩
      refine ⟨_, _, rfl, rfl, ?_⟩
      refine ⟨_, _, _, _, _, _, rfl, (Ow.at_new h_p c0), ?_⟩
      refine ⟨_, rfl, ?_⟩
      refine Ow.ifb (fun h1 => ?_) (fun h1 => ?_)
      · refine ⟨_, rfl, ?_⟩
        refine ⟨_, _, rfl, rfl, ?_⟩
        refine ⟨_, rfl, fun quotient h_quotient => ?_⟩
        have z_quotient : Ow.Sz 801 quotient := by rw [h_quotient]; exact (Ow.Sz.add z_q (Ow.Sz.mono (Ow.Sz.lit (n := 1) (i := 1) (by decide)) (by decide : 1 ≤ 800)))
        refine ⟨_, rfl, ?_⟩
        refine ⟨_, _, rfl, rfl, ?_⟩
        refine ⟨_, rfl, ?_⟩
        refine Ow.ifd (fun h2 => ?_) (fun h2 => ?_)
        · refine ⟨_, rfl, ?_⟩
          refine ⟨_, _, rfl, rfl, ?_⟩
          first | have e := Ow.rnd_neg (t := top) (b := bottom) (by assumption) (by assumption) (by assumption) (by assumption) (by assumption) | have e := Ow.rnd_pos (t := top) (b := bottom) (by assumption) (by assumption) (by assumption) (by assumption) (by assumption)
          exact kont (0 - quotient) (by first | (rw [e]; simp only [if_true, Bool.false_eq_true, if_false]; done) | (rw [e]; simp only [if_true, Bool.false_eq_true, if_false]; omega)) (Ow.Sz.sub (Ow.Sz.mono (Ow.Sz.lit (n := 1) (i := 0) (by decide)) (by decide : 1 ≤ 801)) z_quotient) _ (Ow.same_new h_p)
        · refine ⟨_, rfl, ?_⟩
          first | have e := Ow.rnd_neg (t := top) (b := bottom) (by assumption) (by assumption) (by assumption) (by assumption) (by assumption) | have e := Ow.rnd_pos (t := top) (b := bottom) (by assumption) (by assumption) (by assumption) (by assumption) (by assumption)
          exact kont quotient (by first | (rw [e]; simp only [if_true, Bool.false_eq_true, if_false]; done) | (rw [e]; simp only [if_true, Bool.false_eq_true, if_false]; omega)) (Ow.Sz.mono z_quotient (by decide : 801 ≤ 802)) _ (Ow.same_new h_p)
      · refine ⟨_, rfl, ?_⟩
        refine ⟨_, _, rfl, rfl, ?_⟩
        refine ⟨_, rfl, ?_⟩
        refine Ow.ifd (fun h3 => ?_) (fun h3 => ?_)
        · refine ⟨_, rfl, ?_⟩
          refine ⟨_, _, rfl, rfl, ?_⟩
          first | have e := Ow.rnd_neg (t := top) (b := bottom) (by assumption) (by assumption) (by assumption) (by assumption) (by assumption) | have e := Ow.rnd_pos (t := top) (b := bottom) (by assumption) (by assumption) (by assumption) (by assumption) (by assumption)
          exact kont (0 - q) (by first | (rw [e]; simp only [if_true, Bool.false_eq_true, if_false]; done) | (rw [e]; simp only [if_true, Bool.false_eq_true, if_false]; omega)) (Ow.Sz.mono (Ow.Sz.sub (Ow.Sz.mono (Ow.Sz.lit (n := 1) (i := 0) (by decide)) (by decide : 1 ≤ 800)) z_q) (by decide : 801 ≤ 802)) _ (Ow.same_new h_p)
        · refine ⟨_, rfl, ?_⟩
          first | have e := Ow.rnd_neg (t := top) (b := bottom) (by assumption) (by assumption) (by assumption) (by assumption) (by assumption) | have e := Ow.rnd_pos (t := top) (b := bottom) (by assumption) (by assumption) (by assumption) (by assumption) (by assumption)
          exact kont q (by first | (rw [e]; simp only [if_true, Bool.false_eq_true, if_false]; done) | (rw [e]; simp only [if_true, Bool.false_eq_true, if_false]; omega)) (Ow.Sz.mono z_q (by decide : 800 ≤ 802)) _ (Ow.same_new h_p)
    · refine ⟨_, rfl, ?_⟩
      refine ⟨_, rfl, ?_⟩
      refine ⟨_, rfl, fun ab_2 h_ab_2 => ?_⟩
      have hm_ab_2 := Ow.abs_ite h_ab_2
      refine ⟨_, rfl, ?_⟩
      refine ⟨_, _, rfl, (Ow.dmz (by first | assumption | exact Ow.divw64 (by omega) (by omega) | exact Ow.mul0 ⟨by omega, by omega⟩ | exact Ow.mul1 ⟨by omega, by omega⟩ | exact Ow.shl0 (by omega) (by omega) (by omega) | exact ⟨by omega, by omega⟩ | exact ⟨by omega, by omega, by omega⟩ | omega | (simp only [List.length_append, List.length_cons, List.length_nil]; omega) | (subst_vars; omega)) (Ow.Sz.abs c1 h_ab_2) (by decide)), fun q_2 r_2 p_2 h_q_2 h_r_2 h0_r_2 h1_r_2 h_p_2 => ?_⟩
      have z_q_2 : Ow.Sz 800 q_2 := by rw [h_q_2]; exact Ow.Sz.div (Ow.Sz.abs c1 h_ab_2) (by first | assumption | exact Ow.divw64 (by omega) (by omega) | exact Ow.mul0 ⟨by omega, by omega⟩ | exact Ow.mul1 ⟨by omega, by omega⟩ | exact Ow.shl0 (by omega) (by omega) (by omega) | exact ⟨by omega, by omega⟩ | exact ⟨by omega, by omega, by omega⟩ | omega | (simp only [List.length_append, List.length_cons, List.length_nil]; omega) | (subst_vars; omega))
      refine ⟨_, _, rfl, (SqT.of upd_same), rfl, ?_⟩
      refine ⟨_, _, rfl, ?_⟩
      refine ⟨_, _, rfl, ?_⟩
      refine ⟨rfl, ?_⟩
      refine ⟨_, rfl, ?_⟩
      refine ⟨_, _, _, _, _, rfl, .inr (.inl ⟨rfl, rfl⟩), (Ow.at_new h_p_2 c0), rfl, ?_⟩
      refine ⟨_, rfl, ?_⟩
      refine ⟨_, rfl, ?_⟩
      refine ⟨_, rfl, ?_⟩
      refine ⟨_, rfl, ?_⟩
      refine ⟨_, _, rfl, rfl, ?_⟩
      refine ⟨_, _, _, _, _, _, rfl, (Ow.at_new h_p_2 c0), ?_⟩
      refine ⟨_, rfl, ?_⟩
      refine Ow.ifb (fun h4 => ?_) (fun h4 => ?_)
      · refine ⟨_, rfl, ?_⟩
        refine ⟨_, _, rfl, rfl, ?_⟩
        refine ⟨_, rfl, fun quotient_2 h_quotient_2 => ?_⟩
        have z_quotient_2 : Ow.Sz 801 quotient_2 := by rw [h_quotient_2]; exact (Ow.Sz.add z_q_2 (Ow.Sz.mono (Ow.Sz.lit (n := 1) (i := 1) (by decide)) (by decide : 1 ≤ 800)))
        refine ⟨_, rfl, ?_⟩
        refine ⟨_, _, rfl, rfl, ?_⟩
        refine ⟨_, rfl, ?_⟩
        refine Ow.ifd (fun h5 => ?_) (fun h5 => ?_)
        · refine ⟨_, rfl, ?_⟩
          refine ⟨_, _, rfl, rfl, ?_⟩
          first | have e := Ow.rnd_neg (t := top) (b := bottom) (by assumption) (by assumption) (by assumption) (by assumption) (by assumption) | have e := Ow.rnd_pos (t := top) (b := bottom) (by assumption) (by assumption) (by assumption) (by assumption) (by assumption)
          exact kont (0 - quotient_2) (by first | (rw [e]; simp only [if_true, Bool.false_eq_true, if_false]; done) | (rw [e]; simp only [if_true, Bool.false_eq_true, if_false]; omega)) (Ow.Sz.sub (Ow.Sz.mono (Ow.Sz.lit (n := 1) (i := 0) (by decide)) (by decide : 1 ≤ 801)) z_quotient_2) _ (Ow.same_new h_p_2)
        · refine ⟨_, rfl, ?_⟩
          first | have e := Ow.rnd_neg (t := top) (b := bottom) (by assumption) (by assumption) (by assumption) (by assumption) (by assumption) | have e := Ow.rnd_pos (t := top) (b := bottom) (by assumption) (by assumption) (by assumption) (by assumption) (by assumption)
          exact kont quotient_2 (by first | (rw [e]; simp only [if_true, Bool.false_eq_true, if_false]; done) | (rw [e]; simp only [if_true, Bool.false_eq_true, if_false]; omega)) (Ow.Sz.mono z_quotient_2 (by decide : 801 ≤ 802)) _ (Ow.same_new h_p_2)
      · refine ⟨_, rfl, ?_⟩
        refine ⟨_, _, rfl, rfl, ?_⟩
        refine ⟨_, rfl, ?_⟩
        refine Ow.ifd (fun h6 => ?_) (fun h6 => ?_)
        · refine ⟨_, rfl, ?_⟩
          refine ⟨_, _, rfl, rfl, ?_⟩
          first | have e := Ow.rnd_neg (t := top) (b := bottom) (by assumption) (by assumption) (by assumption) (by assumption) (by assumption) | have e := Ow.rnd_pos (t := top) (b := bottom) (by assumption) (by assumption) (by assumption) (by assumption) (by assumption)
          exact kont (0 - q_2) (by first | (rw [e]; simp only [if_true, Bool.false_eq_true, if_false]; done) | (rw [e]; simp only [if_true, Bool.false_eq_true, if_false]; omega)) (Ow.Sz.mono (Ow.Sz.sub (Ow.Sz.mono (Ow.Sz.lit (n := 1) (i := 0) (by decide)) (by decide : 1 ≤ 800)) z_q_2) (by decide : 801 ≤ 802)) _ (Ow.same_new h_p_2)
        · refine ⟨_, rfl, ?_⟩
          first | have e := Ow.rnd_neg (t := top) (b := bottom) (by assumption) (by assumption) (by assumption) (by assumption) (by assumption) | have e := Ow.rnd_pos (t := top) (b := bottom) (by assumption) (by assumption) (by assumption) (by assumption) (by assumption)
          exact kont q_2 (by first | (rw [e]; simp only [if_true, Bool.false_eq_true, if_false]; done) | (rw [e]; simp only [if_true, Bool.false_eq_true, if_false]; omega)) (Ow.Sz.mono z_q_2 (by decide : 800 ≤ 802)) _ (Ow.same_new h_p_2)
    · refine ⟨_, rfl, ?_⟩
      refine ⟨_, rfl, ?_⟩
      refine ⟨_, rfl, fun ab_3 h_ab_3 => ?_⟩
      have hm_ab_3 := Ow.abs_ite h_ab_3
      refine ⟨_, rfl, ?_⟩
      refine ⟨_, _, rfl, (Ow.dmz (by first | assumption | exact Ow.divw64 (by omega) (by omega) | exact Ow.mul0 ⟨by omega, by omega⟩ | exact Ow.mul1 ⟨by omega, by omega⟩ | exact Ow.shl0 (by omega) (by omega) (by omega) | exact ⟨by omega, by omega⟩ | exact ⟨by omega, by omega, by omega⟩ | omega | (simp only [List.length_append, List.length_cons, List.length_nil]; omega) | (subst_vars; omega)) (Ow.Sz.abs c1 h_ab_3) (by decide)), fun q_3 r_3 p_3 h_q_3 h_r_3 h0_r_3 h1_r_3 h_p_3 => ?_⟩
      have z_q_3 : Ow.Sz 800 q_3 := by rw [h_q_3]; exact Ow.Sz.div (Ow.Sz.abs c1 h_ab_3) (by first | assumption | exact Ow.divw64 (by omega) (by omega) | exact Ow.mul0 ⟨by omega, by omega⟩ | exact Ow.mul1 ⟨by omega, by omega⟩ | exact Ow.shl0 (by omega) (by omega) (by omega) | exact ⟨by omega, by omega⟩ | exact ⟨by omega, by omega, by omega⟩ | omega | (simp only [List.length_append, List.length_cons, List.length_nil]; omega) | (subst_vars; omega))
      refine ⟨_, _, rfl, (SqT.of upd_same), rfl, ?_⟩
      refine ⟨_, _, rfl, ?_⟩
      refine ⟨_, _, rfl, ?_⟩
      refine ⟨rfl, ?_⟩
      refine ⟨_, rfl, ?_⟩
      refine ⟨_, _, _, _, _, rfl, .inr (.inr (.inl ⟨rfl, rfl⟩)), (Ow.at_new h_p_3 c0), rfl, ?_⟩
      refine ⟨_, rfl, ?_⟩
      refine ⟨_, rfl, ?_⟩
      refine ⟨_, rfl, ?_⟩
      refine ⟨_, rfl, ?_⟩
      refine ⟨_, _, rfl, rfl, ?_⟩
      refine ⟨_, _, _, _, _, _, rfl, (Ow.at_new h_p_3 c0), ?_⟩
      refine ⟨_, rfl, ?_⟩
      refine Ow.ifb (fun h7 => ?_) (fun h7 => ?_)
      · refine ⟨_, rfl, ?_⟩
        refine ⟨_, _, rfl, rfl, ?_⟩
        refine ⟨_, rfl, fun quotient_3 h_quotient_3 => ?_⟩
        have z_quotient_3 : Ow.Sz 801 quotient_3 := by rw [h_quotient_3]; exact (Ow.Sz.add z_q_3 (Ow.Sz.mono (Ow.Sz.lit (n := 1) (i := 1) (by decide)) (by decide : 1 ≤ 800)))
        refine ⟨_, rfl, ?_⟩
        refine ⟨_, _, rfl, rfl, ?_⟩
        refine ⟨_, rfl, ?_⟩
        refine Ow.ifd (fun h8 => ?_) (fun h8 => ?_)
        · refine ⟨_, rfl, ?_⟩
          refine ⟨_, _, rfl, rfl, ?_⟩
          first | have e := Ow.rnd_neg (t := top) (b := bottom) (by assumption) (by assumption) (by assumption) (by assumption) (by assumption) | have e := Ow.rnd_pos (t := top) (b := bottom) (by assumption) (by assumption) (by assumption) (by assumption) (by assumption)
          exact kont (0 - quotient_3) (by first | (rw [e]; simp only [if_true, Bool.false_eq_true, if_false]; done) | (rw [e]; simp only [if_true, Bool.false_eq_true, if_false]; omega)) (Ow.Sz.sub (Ow.Sz.mono (Ow.Sz.lit (n := 1) (i := 0) (by decide)) (by decide : 1 ≤ 801)) z_quotient_3) _ (Ow.same_new h_p_3)
        · refine ⟨_, rfl, ?_⟩
          first | have e := Ow.rnd_neg (t := top) (b := bottom) (by assumption) (by assumption) (by assumption) (by assumption) (by assumption) | have e := Ow.rnd_pos (t := top) (b := bottom) (by assumption) (by assumption) (by assumption) (by assumption) (by assumption)
          exact kont quotient_3 (by first | (rw [e]; simp only [if_true, Bool.false_eq_true, if_false]; done) | (rw [e]; simp only [if_true, Bool.false_eq_true, if_false]; omega)) (Ow.Sz.mono z_quotient_3 (by decide : 801 ≤ 802)) _ (Ow.same_new h_p_3)
      · refine ⟨_, rfl, ?_⟩
        refine ⟨_, _, rfl, rfl, ?_⟩
        refine ⟨_, rfl, ?_⟩
        refine Ow.ifd (fun h9 => ?_) (fun h9 => ?_)
        · refine ⟨_, rfl, ?_⟩
          refine ⟨_, _, rfl, rfl, ?_⟩
          first | have e := Ow.rnd_neg (t := top) (b := bottom) (by assumption) (by assumption) (by assumption) (by assumption) (by assumption) | have e := Ow.rnd_pos (t := top) (b := bottom) (by assumption) (by assumption) (by assumption) (by assumption) (by assumption)
          exact kont (0 - q_3) (by first | (rw [e]; simp only [if_true, Bool.false_eq_true, if_false]; done) | (rw [e]; simp only [if_true, Bool.false_eq_true, if_false]; omega)) (Ow.Sz.mono (Ow.Sz.sub (Ow.Sz.mono (Ow.Sz.lit (n := 1) (i := 0) (by decide)) (by decide : 1 ≤ 800)) z_q_3) (by decide : 801 ≤ 802)) _ (Ow.same_new h_p_3)
        · refine ⟨_, rfl, ?_⟩
          first | have e := Ow.rnd_neg (t := top) (b := bottom) (by assumption) (by assumption) (by assumption) (by assumption) (by assumption) | have e := Ow.rnd_pos (t := top) (b := bottom) (by assumption) (by assumption) (by assumption) (by assumption) (by assumption)
          exact kont q_3 (by first | (rw [e]; simp only [if_true, Bool.false_eq_true, if_false]; done) | (rw [e]; simp only [if_true, Bool.false_eq_true, if_false]; omega)) (Ow.Sz.mono z_q_3 (by decide : 800 ≤ 802)) _ (Ow.same_new h_p_3)
    · refine ⟨_, rfl, ?_⟩
      refine ⟨_, rfl, ?_⟩
      refine ⟨_, rfl, fun ab_4 h_ab_4 => ?_⟩
      have hm_ab_4 := Ow.abs_ite h_ab_4
      refine ⟨_, rfl, ?_⟩
      refine ⟨_, _, rfl, (Ow.dmz (by first | assumption | exact Ow.divw64 (by omega) (by omega) | exact Ow.mul0 ⟨by omega, by omega⟩ | exact Ow.mul1 ⟨by omega, by omega⟩ | exact Ow.shl0 (by omega) (by omega) (by omega) | exact ⟨by omega, by omega⟩ | exact ⟨by omega, by omega, by omega⟩ | omega | (simp only [List.length_append, List.length_cons, List.length_nil]; omega) | (subst_vars; omega)) (Ow.Sz.abs c1 h_ab_4) (by decide)), fun q_4 r_4 p_4 h_q_4 h_r_4 h0_r_4 h1_r_4 h_p_4 => ?_⟩
      have z_q_4 : Ow.Sz 800 q_4 := by rw [h_q_4]; exact Ow.Sz.div (Ow.Sz.abs c1 h_ab_4) (by first | assumption | exact Ow.divw64 (by omega) (by omega) | exact Ow.mul0 ⟨by omega, by omega⟩ | exact Ow.mul1 ⟨by omega, by omega⟩ | exact Ow.shl0 (by omega) (by omega) (by omega) | exact ⟨by omega, by omega⟩ | exact ⟨by omega, by omega, by omega⟩ | omega | (simp only [List.length_append, List.length_cons, List.length_nil]; omega) | (subst_vars; omega))
      refine ⟨_, _, rfl, (SqT.of upd_same), rfl, ?_⟩
      refine ⟨_, _, rfl, ?_⟩
      refine ⟨_, _, rfl, ?_⟩
      refine ⟨rfl, ?_⟩
      refine ⟨_, rfl, ?_⟩
      refine ⟨_, _, _, _, _, rfl, .inr (.inr (.inr (⟨rfl, rfl⟩))), (Ow.at_new h_p_4 c0), rfl, ?_⟩
      refine ⟨_, rfl, ?_⟩
      refine ⟨_, rfl, ?_⟩
      refine ⟨_, rfl, ?_⟩
      refine ⟨_, rfl, ?_⟩
      refine ⟨_, _, rfl, rfl, ?_⟩
      refine ⟨_, _, _, _, _, _, rfl, (Ow.at_new h_p_4 c0), ?_⟩
      refine ⟨_, rfl, ?_⟩
      refine Ow.ifb (fun h10 => ?_) (fun h10 => ?_)
      · refine ⟨_, rfl, ?_⟩
        refine ⟨_, _, rfl, rfl, ?_⟩
        refine ⟨_, rfl, fun quotient_4 h_quotient_4 => ?_⟩
        have z_quotient_4 : Ow.Sz 801 quotient_4 := by rw [h_quotient_4]; exact (Ow.Sz.add z_q_4 (Ow.Sz.mono (Ow.Sz.lit (n := 1) (i := 1) (by decide)) (by decide : 1 ≤ 800)))
        refine ⟨_, rfl, ?_⟩
        refine ⟨_, _, rfl, rfl, ?_⟩
        refine ⟨_, rfl, ?_⟩
        refine Ow.ifd (fun h11 => ?_) (fun h11 => ?_)
        · refine ⟨_, rfl, ?_⟩
          refine ⟨_, _, rfl, rfl, ?_⟩
          first | have e := Ow.rnd_neg (t := top) (b := bottom) (by assumption) (by assumption) (by assumption) (by assumption) (by assumption) | have e := Ow.rnd_pos (t := top) (b := bottom) (by assumption) (by assumption) (by assumption) (by assumption) (by assumption)
          exact kont (0 - quotient_4) (by first | (rw [e]; simp only [if_true, Bool.false_eq_true, if_false]; done) | (rw [e]; simp only [if_true, Bool.false_eq_true, if_false]; omega)) (Ow.Sz.sub (Ow.Sz.mono (Ow.Sz.lit (n := 1) (i := 0) (by decide)) (by decide : 1 ≤ 801)) z_quotient_4) _ (Ow.same_new h_p_4)
        · refine ⟨_, rfl, ?_⟩
          first | have e := Ow.rnd_neg (t := top) (b := bottom) (by assumption) (by assumption) (by assumption) (by assumption) (by assumption) | have e := Ow.rnd_pos (t := top) (b := bottom) (by assumption) (by assumption) (by assumption) (by assumption) (by assumption)
          exact kont quotient_4 (by first | (rw [e]; simp only [if_true, Bool.false_eq_true, if_false]; done) | (rw [e]; simp only [if_true, Bool.false_eq_true, if_false]; omega)) (Ow.Sz.mono z_quotient_4 (by decide : 801 ≤ 802)) _ (Ow.same_new h_p_4)
      · refine ⟨_, rfl, ?_⟩
        refine ⟨_, _, rfl, rfl, ?_⟩
        refine ⟨_, rfl, ?_⟩
        refine Ow.ifd (fun h12 => ?_) (fun h12 => ?_)
        · refine ⟨_, rfl, ?_⟩
          refine ⟨_, _, rfl, rfl, ?_⟩
          first | have e := Ow.rnd_neg (t := top) (b := bottom) (by assumption) (by assumption) (by assumption) (by assumption) (by assumption) | have e := Ow.rnd_pos (t := top) (b := bottom) (by assumption) (by assumption) (by assumption) (by assumption) (by assumption)
          exact kont (0 - q_4) (by first | (rw [e]; simp only [if_true, Bool.false_eq_true, if_false]; done) | (rw [e]; simp only [if_true, Bool.false_eq_true, if_false]; omega)) (Ow.Sz.mono (Ow.Sz.sub (Ow.Sz.mono (Ow.Sz.lit (n := 1) (i := 0) (by decide)) (by decide : 1 ≤ 800)) z_q_4) (by decide : 801 ≤ 802)) _ (Ow.same_new h_p_4)
        · refine ⟨_, rfl, ?_⟩
          first | have e := Ow.rnd_neg (t := top) (b := bottom) (by assumption) (by assumption) (by assumption) (by assumption) (by assumption) | have e := Ow.rnd_pos (t := top) (b := bottom) (by assumption) (by assumption) (by assumption) (by assumption) (by assumption)
          exact kont q_4 (by first | (rw [e]; simp only [if_true, Bool.false_eq_true, if_false]; done) | (rw [e]; simp only [if_true, Bool.false_eq_true, if_false]; omega)) (Ow.Sz.mono z_q_4 (by decide : 800 ≤ 802)) _ (Ow.same_new h_p_4)
theorem ok_divisor_of (T : Tx K mg) : FnOk P w K mg base CX0 1 T.d_divisor_of.f T.d_divisor_of.fd ["one", "other"] (sp_divisor_of T) := by
  refine T.d_divisor_of.F.ok sc_divisor_of (fun vs H Q E h => ?_) (fun cdv A outer s H vs Q E hr h => ?_)
  · obtain ⟨one, other, rfl, _⟩ := h
    rfl
  · obtain ⟨one, other, rfl, c0, c1, kont⟩ := h
    refine ⟨_, (pss_cons (ps_set (i := 0) sc_divisor_of.nd rfl (Or.inl rfl) (Ow.pe_nmi (pe_callB call_abs (by rfl) T.z_abs (by decide +kernel) (pa_cons (pv 0) pa_nil))))
        (pss_cons (ps_set (i := 1) sc_divisor_of.nd rfl (Or.inl rfl) (Ow.pe_nmi (pe_callB call_abs (by rfl) T.z_abs (by decide +kernel) (pa_cons (pv 1) pa_nil))))
        (pss_cons (ps_while PassesOwn.never (pt_cmpR op_gt (pv 1) pe_int (nomark _)) (pss_one (ps_par (i := 0) (j := 1) (by rfl) sc_divisor_of.nd rfl rfl (by decide) rfl rfl (pa_cons (pv 1) (pa_cons (pe_op Ow.op_modN (pv 0) (pv 1)) pa_nil)) (by rfl))))
        (pss_one (ps_ret (pv 0)))))), ?_⟩
    refine ⟨_, rfl, ?_⟩
    refine ⟨_, rfl, ?_⟩
    refine ⟨_, rfl, fun ab h_ab => ?_⟩
    have hm_ab := Ow.abs_ite h_ab
    refine ⟨_, rfl, ?_⟩
    refine ⟨_, rfl, ?_⟩
    refine ⟨_, rfl, fun ab_2 h_ab_2 => ?_⟩
    have hm_ab_2 := Ow.abs_ite h_ab_2
    obtain ⟨Wi, h1⟩ : ∃ W : Hp → Nat → L2.St → Hp → Prop, W = fun H0 m σ2 H2 => ∃ (a : Int) (b : Int), m = b.toNat ∧ σ2 = [some (.int (a)), some (.int (b))] ∧ H2 = H0 ∧ (0 ≤ a) ∧ (0 ≤ b) ∧ ((Int.gcd a b : Int) = Int.gcd one other) ∧ True := ⟨_, rfl⟩
    refine ⟨Wi _, ⟨_, by rw [h1]; exact ⟨_, _, rfl, rfl, rfl, (by first | omega | exact congrArg Nat.cast (Ow.gcd_abs h_ab h_ab_2)), (by first | omega | exact congrArg Nat.cast (Ow.gcd_abs h_ab h_ab_2)), (by first | omega | exact congrArg Nat.cast (Ow.gcd_abs h_ab h_ab_2)), trivial⟩⟩, ?_⟩
    intro m σ2 Hn h3
    rw [h1] at h3
    obtain ⟨a, b, rfl, rfl, rfl, h4, h5, h6, _⟩ := h3
    refine ⟨_, rfl, ?_⟩
    refine ⟨_, _, rfl, rfl, ?_⟩
    refine ⟨_, rfl, ?_⟩
    refine Ow.ifd (fun h7 => ?_) (fun h7 => ?_)
    · refine ⟨fun σ3 H3 => ∃ m2, m2 < b.toNat ∧ Wi _ m2 σ3 H3, fun _ _ z => z, ?_⟩
      refine ⟨_, rfl, ?_⟩
      refine ⟨_, rfl, ?_⟩
      refine ⟨_, rfl, ?_⟩
      refine ⟨_, _, rfl, rfl, (by first | assumption | exact Ow.divw64 (by omega) (by omega) | exact Ow.mul0 ⟨by omega, by omega⟩ | exact Ow.mul1 ⟨by omega, by omega⟩ | exact Ow.shl0 (by omega) (by omega) (by omega) | exact ⟨by omega, by omega⟩ | exact ⟨by omega, by omega, by omega⟩ | omega | (simp only [List.length_append, List.length_cons, List.length_nil]; omega) | (subst_vars; omega)), fun r h_r h0_r h1_r => ?_⟩
      refine ⟨_, _, rfl, ?_⟩
      refine ⟨_, ?_, by rw [h1]; exact ⟨b, r, rfl, rfl, rfl, (by first | omega | exact Ow.gcd_step (by assumption) (by assumption) (by assumption) (by assumption)), (by first | omega | exact Ow.gcd_step (by assumption) (by assumption) (by assumption) (by assumption)), (by first | omega | exact Ow.gcd_step (by assumption) (by assumption) (by assumption) (by assumption)), trivial⟩⟩
      first | assumption | exact Ow.divw64 (by omega) (by omega) | exact Ow.mul0 ⟨by omega, by omega⟩ | exact Ow.mul1 ⟨by omega, by omega⟩ | exact Ow.shl0 (by omega) (by omega) (by omega) | exact ⟨by omega, by omega⟩ | exact ⟨by omega, by omega, by omega⟩ | omega | (simp only [List.length_append, List.length_cons, List.length_nil]; omega) | (subst_vars; omega)
    · refine ⟨_, rfl, ?_⟩
      have d0 := Ow.gcd_end (by assumption) (by assumption) (by assumption) (by assumption)
      have d1 := Ow.gcd_size0 c0 c1 d0
      exact kont a (by first | assumption | omega) (by first | assumption | omega) d1.2
theorem ok_lowest (T : Tx K mg) : FnOk P w K mg base CX0 2 T.d_lowest.f T.d_lowest.fd ["top", "bottom"] (sp_lowest T) := by
  refine T.d_lowest.F.ok sc_lowest (fun vs H Q E h => ?_) (fun cdv A outer s H vs Q E hr h => ?_)
  · obtain ⟨top, bottom, rfl, _⟩ := h
    rfl
  · obtain ⟨top, bottom, rfl, c0, c1, c2, kont⟩ := h
    refine ⟨_, (pss_cons (ps_set (i := 2) sc_lowest.nd rfl (Or.inl rfl) (pe_call (Ow.ok_divisor_of T) (hr.mono (by decide : 1 ≤ 1)) (by rfl) T.d_divisor_of.m T.d_divisor_of.F.kp T.d_divisor_of.b .nil pass0 (pa_cons (pv 0) (pa_cons (pv 1) pa_nil))))
        (pss_cons (ps_if (pt_cmpR op_lt (pv 1) pe_int (nomark _)) (pss_one (ps_set (i := 2) sc_lowest.nd rfl (Or.inl rfl) (Ow.pe_nmi (pe_op op_sub pe_int (pv 2))))) pss_nil)
        (pss_one (ps_ret (pe_tup (pa_cons (pe_op Ow.op_divF (pv 0) (pv 2)) (pa_cons (pe_op Ow.op_divF (pv 1) (pv 2)) pa_nil))))))), ?_⟩
    refine ⟨_, rfl, ?_⟩
    refine ⟨_, rfl, ?_⟩
    refine ⟨_, _, rfl, (by first | assumption | exact Ow.divw64 (by omega) (by omega) | exact Ow.mul0 ⟨by omega, by omega⟩ | exact Ow.mul1 ⟨by omega, by omega⟩ | exact Ow.shl0 (by omega) (by omega) (by omega) | exact ⟨by omega, by omega⟩ | exact ⟨by omega, by omega, by omega⟩ | omega | (simp only [List.length_append, List.length_cons, List.length_nil]; omega) | (subst_vars; omega)), c1, fun common h1 h2 h3 => ?_⟩
    refine ⟨_, rfl, ?_⟩
    refine ⟨_, _, rfl, rfl, ?_⟩
    refine ⟨_, rfl, ?_⟩
    refine Ow.ifd (fun h4 => ?_) (fun h4 => ?_)
    · refine ⟨_, rfl, ?_⟩
      refine ⟨_, _, rfl, rfl, ?_⟩
      refine ⟨_, rfl, fun common_2 h_common_2 => ?_⟩
      have z_common_2 : Ow.Sz 8001 common_2 := by rw [h_common_2]; exact (Ow.Sz.sub (Ow.Sz.mono (Ow.Sz.lit (n := 1) (i := 0) (by decide)) (by decide : 1 ≤ 8000)) h3)
      refine ⟨_, rfl, ?_⟩
      refine ⟨_, rfl, ?_⟩
      refine ⟨_, _, rfl, rfl, Ow.divzF (by first | assumption | exact Ow.divw64 (by omega) (by omega) | exact Ow.mul0 ⟨by omega, by omega⟩ | exact Ow.mul1 ⟨by omega, by omega⟩ | exact Ow.shl0 (by omega) (by omega) (by omega) | exact ⟨by omega, by omega⟩ | exact ⟨by omega, by omega, by omega⟩ | omega | (simp only [List.length_append, List.length_cons, List.length_nil]; omega) | (subst_vars; omega)) z_common_2 (by decide) (by decide), fun q h_q => ?_⟩
      refine ⟨_, rfl, ?_⟩
      refine ⟨_, rfl, ?_⟩
      refine ⟨_, _, rfl, rfl, Ow.divzF (by first | assumption | exact Ow.divw64 (by omega) (by omega) | exact Ow.mul0 ⟨by omega, by omega⟩ | exact Ow.mul1 ⟨by omega, by omega⟩ | exact Ow.shl0 (by omega) (by omega) (by omega) | exact ⟨by omega, by omega⟩ | exact ⟨by omega, by omega, by omega⟩ | omega | (simp only [List.length_append, List.length_cons, List.length_nil]; omega) | (subst_vars; omega)) z_common_2 (by decide) (by decide), fun q_2 h_q_2 => ?_⟩
      refine ⟨by show 2 ≤ sizeLine; decide, fun p h_p => ?_⟩
      have d1 := Ow.lowz (t := top) (b := bottom) (g := common) (c := common_2) (p := q) (q := q_2) (by assumption) c0 (by omega) (by assumption) (by assumption)
      exact kont q q_2 (by first | exact d1.1 | exact d1.2.1 | exact d1.2.2.1) (by first | exact d1.1 | exact d1.2.1 | exact d1.2.2.1) (by first | exact d1.1 | exact d1.2.1 | exact d1.2.2.1) (c2.le d1.2.2.2.1) (c1.le d1.2.2.2.2) _ _ (Ow.same_new h_p) h_p upd_same
    · refine ⟨_, rfl, ?_⟩
      refine ⟨_, rfl, ?_⟩
      refine ⟨_, _, rfl, rfl, Ow.divzF (by first | assumption | exact Ow.divw64 (by omega) (by omega) | exact Ow.mul0 ⟨by omega, by omega⟩ | exact Ow.mul1 ⟨by omega, by omega⟩ | exact Ow.shl0 (by omega) (by omega) (by omega) | exact ⟨by omega, by omega⟩ | exact ⟨by omega, by omega, by omega⟩ | omega | (simp only [List.length_append, List.length_cons, List.length_nil]; omega) | (subst_vars; omega)) h3 (by decide) (by decide), fun q_3 h_q_3 => ?_⟩
      refine ⟨_, rfl, ?_⟩
      refine ⟨_, rfl, ?_⟩
      refine ⟨_, _, rfl, rfl, Ow.divzF (by first | assumption | exact Ow.divw64 (by omega) (by omega) | exact Ow.mul0 ⟨by omega, by omega⟩ | exact Ow.mul1 ⟨by omega, by omega⟩ | exact Ow.shl0 (by omega) (by omega) (by omega) | exact ⟨by omega, by omega⟩ | exact ⟨by omega, by omega, by omega⟩ | omega | (simp only [List.length_append, List.length_cons, List.length_nil]; omega) | (subst_vars; omega)) h3 (by decide) (by decide), fun q_4 h_q_4 => ?_⟩
      refine ⟨by show 2 ≤ sizeLine; decide, fun p_2 h_p_2 => ?_⟩
      have d1 := Ow.lowz (t := top) (b := bottom) (g := common) (c := common) (p := q_3) (q := q_4) (by assumption) c0 (by omega) (by assumption) (by assumption)
      exact kont q_3 q_4 (by first | exact d1.1 | exact d1.2.1 | exact d1.2.2.1) (by first | exact d1.1 | exact d1.2.1 | exact d1.2.2.1) (by first | exact d1.1 | exact d1.2.1 | exact d1.2.2.1) (c2.le d1.2.2.2.1) (c1.le d1.2.2.2.2) _ _ (Ow.same_new h_p_2) h_p_2 upd_same
theorem ok_by_twos (T : Tx K mg) : FnOk P w K mg base CX0 3 T.d_by_twos.f T.d_by_twos.fd ["number", "k"] (sp_by_twos T) := by
  refine T.d_by_twos.F.ok sc_by_twos (fun vs H Q E h => ?_) (fun cdv A outer s H vs Q E hr h => ?_)
  · obtain ⟨number, k, rfl, _⟩ := h
    rfl
  · obtain ⟨number, k, rfl, c0, c1, c2, kont⟩ := h
    refine ⟨_, (pss_one (ps_ret (pe_call (Ow.ok_lowest T) (hr.mono (by decide : 2 ≤ 2)) (by rfl) T.d_lowest.m T.d_lowest.F.kp T.d_lowest.b .nil pass0 (pa_cons (pv 0) (pa_cons (pe_op Ow.op_shl1 pe_int (pv 1)) pa_nil))))), ?_⟩
    refine ⟨_, rfl, ?_⟩
    refine ⟨_, rfl, ?_⟩
    refine ⟨_, rfl, rfl, (by first | assumption | exact Ow.divw64 (by omega) (by omega) | exact Ow.mul0 ⟨by omega, by omega⟩ | exact Ow.mul1 ⟨by omega, by omega⟩ | exact Ow.shl0 (by omega) (by omega) (by omega) | exact ⟨by omega, by omega⟩ | exact ⟨by omega, by omega, by omega⟩ | omega | (simp only [List.length_append, List.length_cons, List.length_nil]; omega) | (subst_vars; omega)), fun B h_B h0_B => ?_⟩
    have z_B : Ow.Sz 61 B := by rw [h_B]; exact Ow.Sz.pow (n := 60) (by first | assumption | exact Ow.divw64 (by omega) (by omega) | exact Ow.mul0 ⟨by omega, by omega⟩ | exact Ow.mul1 ⟨by omega, by omega⟩ | exact Ow.shl0 (by omega) (by omega) (by omega) | exact ⟨by omega, by omega⟩ | exact ⟨by omega, by omega, by omega⟩ | omega | (simp only [List.length_append, List.length_cons, List.length_nil]; omega) | (subst_vars; omega))
    refine ⟨_, _, rfl, (by exact Int.ne_of_gt (by assumption)), (Ow.Sz.mono z_B (by decide : 61 ≤ 8000)), (Ow.Sz.mono c2 (by decide : 820 ≤ 8000)), fun p q h1 h2 h3 h4 h5 p_2 Hn h6 h7 h8 => ?_⟩
    have htw := Ow.tw_sz (p := p) (q := q) (n := number) (K := B) (by assumption) (by assumption) (by assumption) (by assumption)
    have htq := Ow.tw_q (k := k) (K := B) htw.2 h_B (by omega)
    exact kont p q (by first | assumption | (rw [← h_B]; assumption)) (by first | assumption | (rw [← h_B]; assumption)) (by first | assumption | (rw [← h_B]; assumption)) (c2.le htw.1) (htq (by assumption)) _ _ h6 h7 h8
theorem ok_raised (T : Tx K mg) : FnOk P w K mg base CX0 4 T.d_raised.f T.d_raised.fd ["one", "k"] (sp_raised T) := by
  refine T.d_raised.F.ok sc_raised (fun vs H Q E h => ?_) (fun cdv A outer s H vs Q E hr h => ?_)
  · obtain ⟨one, k, t, b, rfl, _⟩ := h
    rfl
  · obtain ⟨one, k, t, b, rfl, c0, c1, c2, c3, c4, c5, kont⟩ := h
    refine ⟨_, (pss_cons (ps_asg (pv 0) (pg_tup rfl (pgs_cons (pg_name (i := 2) sc_raised.nd rfl (Or.inl rfl)) (pgs_cons (pg_name (i := 3) sc_raised.nd rfl (Or.inl rfl)) pgs_nil))))
        (pss_one (ps_ret (pe_call (Ow.ok_by_twos T) (hr.mono (by decide : 3 ≤ 3)) (by rfl) T.d_by_twos.m T.d_by_twos.F.kp T.d_by_twos.b .nil pass0 (pa_cons (pe_op op_sub pe_int (pe_op Ow.op_divN (pe_op op_sub pe_int (pe_op Ow.op_shlN (pv 2) (pv 1))) (pv 3))) (pa_cons (pv 1) pa_nil)))))), ?_⟩
    refine ⟨_, rfl, ?_⟩
    refine ⟨_, _, rfl, (SqT.of c0), rfl, ?_⟩
    refine ⟨_, _, rfl, ?_⟩
    refine ⟨_, _, rfl, ?_⟩
    refine ⟨rfl, ?_⟩
    refine ⟨_, rfl, ?_⟩
    refine ⟨_, rfl, ?_⟩
    refine ⟨_, _, rfl, rfl, (.inr (Ow.shlz (n := 60) c2 (by first | assumption | exact Ow.divw64 (by omega) (by omega) | exact Ow.mul0 ⟨by omega, by omega⟩ | exact Ow.mul1 ⟨by omega, by omega⟩ | exact Ow.shl0 (by omega) (by omega) (by omega) | exact ⟨by omega, by omega⟩ | exact ⟨by omega, by omega, by omega⟩ | omega | (simp only [List.length_append, List.length_cons, List.length_nil]; omega) | (subst_vars; omega)) (by first | assumption | exact Ow.divw64 (by omega) (by omega) | exact Ow.mul0 ⟨by omega, by omega⟩ | exact Ow.mul1 ⟨by omega, by omega⟩ | exact Ow.shl0 (by omega) (by omega) (by omega) | exact ⟨by omega, by omega⟩ | exact ⟨by omega, by omega, by omega⟩ | omega | (simp only [List.length_append, List.length_cons, List.length_nil]; omega) | (subst_vars; omega)) (by decide))), fun s h_s => ?_⟩
    have z_s : Ow.Sz 761 s := by rw [h_s]; exact (Ow.Sz.shl (n := 60) c2 (by first | assumption | exact Ow.divw64 (by omega) (by omega) | exact Ow.mul0 ⟨by omega, by omega⟩ | exact Ow.mul1 ⟨by omega, by omega⟩ | exact Ow.shl0 (by omega) (by omega) (by omega) | exact ⟨by omega, by omega⟩ | exact ⟨by omega, by omega, by omega⟩ | omega | (simp only [List.length_append, List.length_cons, List.length_nil]; omega) | (subst_vars; omega)))
    refine ⟨_, _, rfl, rfl, ?_⟩
    refine ⟨_, rfl, ?_⟩
    refine ⟨_, _, rfl, rfl, Ow.divz (by first | assumption | exact Ow.divw64 (by omega) (by omega) | exact Ow.mul0 ⟨by omega, by omega⟩ | exact Ow.mul1 ⟨by omega, by omega⟩ | exact Ow.shl0 (by omega) (by omega) (by omega) | exact ⟨by omega, by omega⟩ | exact ⟨by omega, by omega, by omega⟩ | omega | (simp only [List.length_append, List.length_cons, List.length_nil]; omega) | (subst_vars; omega)) c3 (by decide) (by decide), fun q h_q => ?_⟩
    have z_q : Ow.Sz 762 q := by rw [h_q]; exact (Ow.Sz.div (Ow.Sz.sub (Ow.Sz.mono (Ow.Sz.lit (n := 1) (i := 0) (by decide)) (by decide : 1 ≤ 761)) z_s) (by first | assumption | exact Ow.divw64 (by omega) (by omega) | exact Ow.mul0 ⟨by omega, by omega⟩ | exact Ow.mul1 ⟨by omega, by omega⟩ | exact Ow.shl0 (by omega) (by omega) (by omega) | exact ⟨by omega, by omega⟩ | exact ⟨by omega, by omega, by omega⟩ | omega | (simp only [List.length_append, List.length_cons, List.length_nil]; omega) | (subst_vars; omega)))
    refine ⟨_, _, rfl, rfl, ?_⟩
    refine ⟨_, rfl, ?_⟩
    refine ⟨_, _, rfl, (by first | assumption | exact Ow.divw64 (by omega) (by omega) | exact Ow.mul0 ⟨by omega, by omega⟩ | exact Ow.mul1 ⟨by omega, by omega⟩ | exact Ow.shl0 (by omega) (by omega) (by omega) | exact ⟨by omega, by omega⟩ | exact ⟨by omega, by omega, by omega⟩ | omega | (simp only [List.length_append, List.length_cons, List.length_nil]; omega) | (subst_vars; omega)), (by first | assumption | exact Ow.divw64 (by omega) (by omega) | exact Ow.mul0 ⟨by omega, by omega⟩ | exact Ow.mul1 ⟨by omega, by omega⟩ | exact Ow.shl0 (by omega) (by omega) (by omega) | exact ⟨by omega, by omega⟩ | exact ⟨by omega, by omega, by omega⟩ | omega | (simp only [List.length_append, List.length_cons, List.length_nil]; omega) | (subst_vars; omega)), (Ow.Sz.mono (Ow.Sz.sub (Ow.Sz.mono (Ow.Sz.lit (n := 1) (i := 0) (by decide)) (by decide : 1 ≤ 762)) z_q) (by decide : 763 ≤ 820)), fun p q_2 h1 h2 h3 h4 h5 p_2 Hn h6 h7 h8 => ?_⟩
    have d0 : Ow.up t b k = 0 - q := by rw [h_q, h_s]; unfold Ow.up; simp only [Int.zero_sub]
    exact kont p q_2 (by first | assumption | (rw [d0]; assumption)) (by first | assumption | (rw [d0]; assumption)) (by first | assumption | (rw [d0]; assumption)) h4 h5 _ _ h6 h7 h8
theorem ok_plus (T : Tx K mg) : FnOk P w K mg base CX0 3 T.d_plus.f T.d_plus.fd ["one", "other"] (sp_plus T) := by
  refine T.d_plus.F.ok sc_plus (fun vs H Q E h => ?_) (fun cdv A outer s H vs Q E hr h => ?_)
  · obtain ⟨one, other, a, b, c, d, rfl, _⟩ := h
    rfl
  · obtain ⟨one, other, a, b, c, d, rfl, c0, c1, c2, c3, c4, c5, c6, c7, kont⟩ := h
    refine ⟨_, (pss_cons (ps_asg (pv 0) (pg_tup rfl (pgs_cons (pg_name (i := 2) sc_plus.nd rfl (Or.inl rfl)) (pgs_cons (pg_name (i := 3) sc_plus.nd rfl (Or.inl rfl)) pgs_nil))))
        (pss_cons (ps_asg (pv 1) (pg_tup rfl (pgs_cons (pg_name (i := 4) sc_plus.nd rfl (Or.inl rfl)) (pgs_cons (pg_name (i := 5) sc_plus.nd rfl (Or.inl rfl)) pgs_nil))))
        (pss_one (ps_ret (pe_call (Ow.ok_lowest T) (hr.mono (by decide : 2 ≤ 2)) (by rfl) T.d_lowest.m T.d_lowest.F.kp T.d_lowest.b .nil pass0 (pa_cons (pe_op op_add (pe_op Ow.op_mulN (pv 2) (pv 5)) (pe_op Ow.op_mulN (pv 4) (pv 3))) (pa_cons (pe_op Ow.op_mulN (pv 3) (pv 5)) pa_nil))))))), ?_⟩
    refine ⟨_, rfl, ?_⟩
    refine ⟨_, _, rfl, (SqT.of c0), rfl, ?_⟩
    refine ⟨_, _, rfl, ?_⟩
    refine ⟨_, _, rfl, ?_⟩
    refine ⟨rfl, ?_⟩
    refine ⟨_, rfl, ?_⟩
    refine ⟨_, _, rfl, (SqT.of c4), rfl, ?_⟩
    refine ⟨_, _, rfl, ?_⟩
    refine ⟨_, _, rfl, ?_⟩
    refine ⟨rfl, ?_⟩
    refine ⟨_, rfl, ?_⟩
    refine ⟨_, rfl, ?_⟩
    refine ⟨_, _, rfl, rfl, (.inr (Ow.mulx c2 c7 (by decide))), fun m h_m => ?_⟩
    have z_m : Ow.Sz 4820 m := by rw [h_m]; exact (Ow.Sz.mul c2 c7)
    refine ⟨_, rfl, ?_⟩
    refine ⟨_, rfl, ?_⟩
    refine ⟨_, _, rfl, rfl, (.inr (Ow.mulx c6 c3 (by decide))), fun m_2 h_m_2 => ?_⟩
    have z_m_2 : Ow.Sz 4820 m_2 := by rw [h_m_2]; exact (Ow.Sz.mul c6 c3)
    refine ⟨_, _, rfl, rfl, ?_⟩
    refine ⟨_, rfl, ?_⟩
    refine ⟨_, rfl, ?_⟩
    refine ⟨_, _, rfl, rfl, (.inr (Ow.mulx c3 c7 (by decide))), fun m_3 h_m_3 => ?_⟩
    have z_m_3 : Ow.Sz 4820 m_3 := by rw [h_m_3]; exact (Ow.Sz.mul c3 c7)
    refine ⟨_, _, rfl, (by first | with_reducible assumption | exact Ow.divw64 (by omega) (by omega) | exact Ow.mul0 ⟨by omega, by omega⟩ | exact Ow.mul1 ⟨by omega, by omega⟩ | exact Ow.shl0 (by omega) (by omega) (by omega) | exact ⟨by omega, by omega⟩ | exact ⟨by omega, by omega, by omega⟩ | omega | (simp only [List.length_append, List.length_cons, List.length_nil]; omega) | (subst_vars; omega) | assumption | (subst_vars; exact Int.mul_ne_zero (by omega) (by omega))), (Ow.Sz.mono z_m_3 (by decide : 4820 ≤ 8000)), (Ow.Sz.mono (Ow.Sz.add z_m z_m_2) (by decide : 4821 ≤ 8000)), fun p q h1 h2 h3 h4 h5 p_2 Hn h6 h7 h8 => ?_⟩
    exact kont p q (by first | assumption | exact Ow.divw64 (by omega) (by omega) | exact Ow.mul0 ⟨by omega, by omega⟩ | exact Ow.mul1 ⟨by omega, by omega⟩ | exact Ow.shl0 (by omega) (by omega) (by omega) | exact ⟨by omega, by omega⟩ | exact ⟨by omega, by omega, by omega⟩ | omega | (simp only [List.length_append, List.length_cons, List.length_nil]; omega) | (subst_vars; omega)) (by first | assumption | exact Ow.divw64 (by omega) (by omega) | exact Ow.mul0 ⟨by omega, by omega⟩ | exact Ow.mul1 ⟨by omega, by omega⟩ | exact Ow.shl0 (by omega) (by omega) (by omega) | exact ⟨by omega, by omega⟩ | exact ⟨by omega, by omega, by omega⟩ | omega | (simp only [List.length_append, List.length_cons, List.length_nil]; omega) | (subst_vars; omega)) (by first | assumption | exact Ow.divw64 (by omega) (by omega) | exact Ow.mul0 ⟨by omega, by omega⟩ | exact Ow.mul1 ⟨by omega, by omega⟩ | exact Ow.shl0 (by omega) (by omega) (by omega) | exact ⟨by omega, by omega⟩ | exact ⟨by omega, by omega, by omega⟩ | omega | (simp only [List.length_append, List.length_cons, List.length_nil]; omega) | (subst_vars; omega)) h4 h5 _ _ h6 h7 h8
theorem ok_less (T : Tx K mg) : FnOk P w K mg base CX0 1 T.d_less.f T.d_less.fd ["one", "other"] (sp_less T) := by
  refine T.d_less.F.ok sc_less (fun vs H Q E h => ?_) (fun cdv A outer s H vs Q E hr h => ?_)
  · obtain ⟨one, other, a, b, c, d, rfl, _⟩ := h
    rfl
  · obtain ⟨one, other, a, b, c, d, rfl, c0, c1, c2, c3, c4, c5, c6, c7, kont⟩ := h
    refine ⟨_, (pss_one (ps_ret (pe_cmpR op_lt (pe_op Ow.op_mulN (pe_ix ix_tup (pv 0) pe_int (fun _ _ => rfl)) (pe_ix ix_tup (pv 1) pe_int (fun _ _ => rfl))) (pe_op Ow.op_mulN (pe_ix ix_tup (pv 1) pe_int (fun _ _ => rfl)) (pe_ix ix_tup (pv 0) pe_int (fun _ _ => rfl))) (nomark _)))), ?_⟩
    refine ⟨_, rfl, ?_⟩
    refine ⟨_, _, _, _, rfl, rfl, (SqT.of c0), (by first | rfl | decide), ?_⟩
    refine ⟨_, rfl, ?_⟩
    refine ⟨_, _, _, _, rfl, rfl, (SqT.of c4), (by first | rfl | decide), ?_⟩
    refine ⟨_, _, rfl, rfl, (.inr (Ow.mulx c2 c7 (by decide))), fun m h_m => ?_⟩
    have z_m : Ow.Sz 16000 m := by rw [h_m]; exact (Ow.Sz.mul c2 c7)
    refine ⟨_, rfl, ?_⟩
    refine ⟨_, _, _, _, rfl, rfl, (SqT.of c4), (by first | rfl | decide), ?_⟩
    refine ⟨_, rfl, ?_⟩
    refine ⟨_, _, _, _, rfl, rfl, (SqT.of c0), (by first | rfl | decide), ?_⟩
    refine ⟨_, _, rfl, rfl, (.inr (Ow.mulx c6 c3 (by decide))), fun m_2 h_m_2 => ?_⟩
    have z_m_2 : Ow.Sz 16000 m_2 := by rw [h_m_2]; exact (Ow.Sz.mul c6 c3)
    refine ⟨_, _, rfl, rfl, ?_⟩
    refine Ow.eqdd (P' := a * d < c * b) (by first | assumption | exact Ow.divw64 (by omega) (by omega) | exact Ow.mul0 ⟨by omega, by omega⟩ | exact Ow.mul1 ⟨by omega, by omega⟩ | exact Ow.shl0 (by omega) (by omega) (by omega) | exact ⟨by omega, by omega⟩ | exact ⟨by omega, by omega, by omega⟩ | omega | (simp only [List.length_append, List.length_cons, List.length_nil]; omega) | (subst_vars; omega)) ?_
    exact kont
theorem ok_times (T : Tx K mg) : FnOk P w K mg base CX0 3 T.d_times.f T.d_times.fd ["one", "other"] (sp_times T) := by
  refine T.d_times.F.ok sc_times (fun vs H Q E h => ?_) (fun cdv A outer s H vs Q E hr h => ?_)
  · obtain ⟨one, other, a, b, c, d, rfl, _⟩ := h
    rfl
  · obtain ⟨one, other, a, b, c, d, rfl, c0, c1, c2, c3, c4, c5, c6, c7, kont⟩ := h
    refine ⟨_, (pss_one (ps_ret (pe_call (Ow.ok_lowest T) (hr.mono (by decide : 2 ≤ 2)) (by rfl) T.d_lowest.m T.d_lowest.F.kp T.d_lowest.b .nil pass0 (pa_cons (pe_op Ow.op_mulN (pe_ix ix_tup (pv 0) pe_int (fun _ _ => rfl)) (pe_ix ix_tup (pv 1) pe_int (fun _ _ => rfl))) (pa_cons (pe_op Ow.op_mulN (pe_ix ix_tup (pv 0) pe_int (fun _ _ => rfl)) (pe_ix ix_tup (pv 1) pe_int (fun _ _ => rfl))) pa_nil))))), ?_⟩
    refine ⟨_, rfl, ?_⟩
    refine ⟨_, _, _, _, rfl, rfl, (SqT.of c0), (by first | rfl | decide), ?_⟩
    refine ⟨_, rfl, ?_⟩
    refine ⟨_, _, _, _, rfl, rfl, (SqT.of c4), (by first | rfl | decide), ?_⟩
    refine ⟨_, _, rfl, rfl, (.inr (Ow.mulx c2 c6 (by decide))), fun m h_m => ?_⟩
    have z_m : Ow.Sz 4800 m := by rw [h_m]; exact (Ow.Sz.mul c2 c6)
    refine ⟨_, rfl, ?_⟩
    refine ⟨_, _, _, _, rfl, rfl, (SqT.of c0), (by first | rfl | decide), ?_⟩
    refine ⟨_, rfl, ?_⟩
    refine ⟨_, _, _, _, rfl, rfl, (SqT.of c4), (by first | rfl | decide), ?_⟩
    refine ⟨_, _, rfl, rfl, (.inr (Ow.mulx c3 c7 (by decide))), fun m_2 h_m_2 => ?_⟩
    have z_m_2 : Ow.Sz 4800 m_2 := by rw [h_m_2]; exact (Ow.Sz.mul c3 c7)
    refine ⟨_, _, rfl, (by first | with_reducible assumption | exact Ow.divw64 (by omega) (by omega) | exact Ow.mul0 ⟨by omega, by omega⟩ | exact Ow.mul1 ⟨by omega, by omega⟩ | exact Ow.shl0 (by omega) (by omega) (by omega) | exact ⟨by omega, by omega⟩ | exact ⟨by omega, by omega, by omega⟩ | omega | (simp only [List.length_append, List.length_cons, List.length_nil]; omega) | (subst_vars; omega) | assumption | (subst_vars; exact Int.mul_ne_zero (by omega) (by omega))), (Ow.Sz.mono z_m_2 (by decide : 4800 ≤ 8000)), (Ow.Sz.mono z_m (by decide : 4800 ≤ 8000)), fun p q h1 h2 h3 h4 h5 p_2 Hn h6 h7 h8 => ?_⟩
    exact kont p q (by first | assumption | exact Ow.divw64 (by omega) (by omega) | exact Ow.mul0 ⟨by omega, by omega⟩ | exact Ow.mul1 ⟨by omega, by omega⟩ | exact Ow.shl0 (by omega) (by omega) (by omega) | exact ⟨by omega, by omega⟩ | exact ⟨by omega, by omega, by omega⟩ | omega | (simp only [List.length_append, List.length_cons, List.length_nil]; omega) | (subst_vars; omega)) (by first | assumption | exact Ow.divw64 (by omega) (by omega) | exact Ow.mul0 ⟨by omega, by omega⟩ | exact Ow.mul1 ⟨by omega, by omega⟩ | exact Ow.shl0 (by omega) (by omega) (by omega) | exact ⟨by omega, by omega⟩ | exact ⟨by omega, by omega, by omega⟩ | omega | (simp only [List.length_append, List.length_cons, List.length_nil]; omega) | (subst_vars; omega)) (by first | assumption | exact Ow.divw64 (by omega) (by omega) | exact Ow.mul0 ⟨by omega, by omega⟩ | exact Ow.mul1 ⟨by omega, by omega⟩ | exact Ow.shl0 (by omega) (by omega) (by omega) | exact ⟨by omega, by omega⟩ | exact ⟨by omega, by omega, by omega⟩ | omega | (simp only [List.length_append, List.length_cons, List.length_nil]; omega) | (subst_vars; omega)) h4 h5 _ _ h6 h7 h8
theorem ok_l_whole (T : Tx K mg) : FnOk P w K mg base CX0 1 T.d_l_whole.f T.d_l_whole.fd ["_law_found"] (sp_l_whole T) := by
  refine T.d_l_whole.F.ok sc_l_whole (fun vs H Q E h => ?_) (fun cdv A outer s H vs Q E hr h => ?_)
  · obtain ⟨found, rfl, _⟩ := h
    rfl
  · obtain ⟨found, rfl, kont⟩ := h
    refine ⟨_, (pss_one (ps_ret (pe_and (pe_callB call_isi (by rfl) T.z_isinstance (by decide +kernel) (pa_cons (pv 0) (pa_cons (pe_bltn (v := .ty "int") (by rfl) T.z_int (by decide +kernel) rfl) pa_nil))) (pe_one (pe_not (pe_callB call_isi (by rfl) T.z_isinstance (by decide +kernel) (pa_cons (pv 0) (pa_cons (pe_bltn (v := .ty "bool") (by rfl) T.z_bool (by decide +kernel) rfl) pa_nil)))))))), ?_⟩
    refine ⟨_, rfl, ?_⟩
    refine ⟨_, _, _, _, true, rfl, .ty _, .base (.int _), kit_ty (by decide +kernel), ?_⟩
    refine ⟨_, rfl, ?_⟩
    refine iteT ?_
    refine ⟨_, rfl, ?_⟩
    refine ⟨_, _, _, _, false, rfl, .ty _, .base (.int _), kit_ty (by decide +kernel), ?_⟩
    refine ⟨_, rfl, ?_⟩
    exact kont
theorem ok_l_is_fraction (T : Tx K mg) : FnOk P w K mg base CX0 2 T.d_l_is_fraction.f T.d_l_is_fraction.fd ["_law_found"] (sp_l_is_fraction T) := by
  refine T.d_l_is_fraction.F.ok sc_l_is_fraction (fun vs H Q E h => ?_) (fun cdv A outer s H vs Q E hr h => ?_)
  · obtain ⟨found, t, b, rfl, _⟩ := h
    rfl
  · obtain ⟨found, t, b, rfl, c0, c1, c2, c3, kont⟩ := h
    refine ⟨_, (pss_cons (ps_if (PW.pt (pw_or (pt_not (pt_val (pe_callB call_isi (by rfl) T.z_isinstance (by decide +kernel) (pa_cons (pv 0) (pa_cons (pe_bltn (v := .ty "tuple") (by rfl) T.z_tuple (by decide +kernel) rfl) pa_nil))))) (pw_or (pt_cmpR op_ne (Ow.pe_nmi (pe_callB call_len_seq (by rfl) T.z_len (by decide +kernel) (pa_cons (pv 0) pa_nil))) pe_int (nomark _)) (pw_or (pt_not (pt_val (pe_call (Ow.ok_l_whole T) (hr.mono (by decide : 1 ≤ 1)) (by rfl) T.d_l_whole.m T.d_l_whole.F.kp T.d_l_whole.b .nil pass0 (pa_cons (pe_ix ix_tup (pv 0) pe_int (fun _ _ => rfl)) pa_nil)))) (pw_or1 (pt_not (pt_val (pe_call (Ow.ok_l_whole T) (hr.mono (by decide : 1 ≤ 1)) (by rfl) T.d_l_whole.m T.d_l_whole.F.kp T.d_l_whole.b .nil pass0 (pa_cons (pe_ix ix_tup (pv 0) pe_int (fun _ _ => rfl)) pa_nil))))))))) (pss_one (ps_ret pe_bl)) pss_nil)
        (pss_one (ps_ret (pe_and (pe_cmpR op_gt (pe_ix ix_tup (pv 0) pe_int (fun _ _ => rfl)) pe_int (nomark _)) (pe_one (pe_cmpR op_eq (pe_call (Ow.ok_l_divisor T) (hr.mono (by decide : 1 ≤ 1)) (by rfl) T.d_l_divisor.m T.d_l_divisor.F.kp T.d_l_divisor.b .nil pass0 (pa_cons (pe_ix ix_tup (pv 0) pe_int (fun _ _ => rfl)) (pa_cons (pe_ix ix_tup (pv 0) pe_int (fun _ _ => rfl)) pa_nil))) pe_int (nomark _))))))), ?_⟩
    refine ⟨_, rfl, ?_⟩
    refine ⟨_, _, _, _, true, rfl, .ty _, .base (.tup c0), kit_ty (by decide +kernel), ?_⟩
    refine ⟨_, rfl, ?_⟩
    refine iteF ?_
    refine ⟨_, rfl, ?_⟩
    refine ⟨_, _, rfl, .inr (SqT.of c0), ?_⟩
    refine ⟨_, rfl, fun len h_len => ?_⟩
    replace h_len : len = 2 := h_len
    refine ⟨rfl, ?_⟩
    refine ⟨_, rfl, ?_⟩
    refine Ow.ifnei (fun h1 => ?_) (fun h1 => ?_)
    · refine iteT ?_
      exact ((by first | assumption | exact Ow.divw64 (by omega) (by omega) | exact Ow.mul0 ⟨by omega, by omega⟩ | exact Ow.mul1 ⟨by omega, by omega⟩ | exact Ow.shl0 (by omega) (by omega) (by omega) | exact ⟨by omega, by omega⟩ | exact ⟨by omega, by omega, by omega⟩ | omega | (simp only [List.length_append, List.length_cons, List.length_nil]; omega) | (subst_vars; omega)) : False).elim
    · refine ⟨_, rfl, ?_⟩
      refine ⟨_, _, _, _, rfl, rfl, (SqT.of c0), (by first | rfl | decide), ?_⟩
      refine ⟨_, rfl, ?_⟩
      refine ⟨_, rfl, ?_⟩
      refine iteF ?_
      refine ⟨_, rfl, ?_⟩
      refine ⟨_, _, _, _, rfl, rfl, (SqT.of c0), (by first | rfl | decide), ?_⟩
      refine ⟨_, rfl, ?_⟩
      refine ⟨_, rfl, ?_⟩
      refine iteF ?_
      refine ⟨_, rfl, ?_⟩
      refine ⟨_, _, _, _, rfl, rfl, (SqT.of c0), (by first | rfl | decide), ?_⟩
      refine ⟨_, _, rfl, rfl, ?_⟩
      refine ⟨_, rfl, ?_⟩
      refine Ow.ifd (fun h2 => ?_) (fun h2 => ?_)
      · refine ⟨_, rfl, ?_⟩
        refine ⟨_, _, _, _, rfl, rfl, (SqT.of c0), (by first | rfl | decide), ?_⟩
        refine ⟨_, rfl, ?_⟩
        refine ⟨_, _, _, _, rfl, rfl, (SqT.of c0), (by first | rfl | decide), ?_⟩
        refine ⟨_, _, rfl, (by first | assumption | exact Ow.divw64 (by omega) (by omega) | exact Ow.mul0 ⟨by omega, by omega⟩ | exact Ow.mul1 ⟨by omega, by omega⟩ | exact Ow.shl0 (by omega) (by omega) (by omega) | exact ⟨by omega, by omega⟩ | exact ⟨by omega, by omega, by omega⟩ | omega | (simp only [List.length_append, List.length_cons, List.length_nil]; omega) | (subst_vars; omega)), c2, fun t_2 h3 h4 h5 => ?_⟩
        refine ⟨rfl, ?_⟩
        refine Ow.eqeqi (by first | assumption | exact Ow.divw64 (by omega) (by omega) | exact Ow.mul0 ⟨by omega, by omega⟩ | exact Ow.mul1 ⟨by omega, by omega⟩ | exact Ow.shl0 (by omega) (by omega) (by omega) | exact ⟨by omega, by omega⟩ | exact ⟨by omega, by omega, by omega⟩ | omega | (simp only [List.length_append, List.length_cons, List.length_nil]; omega) | (subst_vars; omega)) ?_
        exact kont
      · exact ((by first | assumption | exact Ow.divw64 (by omega) (by omega) | exact Ow.mul0 ⟨by omega, by omega⟩ | exact Ow.mul1 ⟨by omega, by omega⟩ | exact Ow.shl0 (by omega) (by omega) (by omega) | exact ⟨by omega, by omega⟩ | exact ⟨by omega, by omega, by omega⟩ | omega | (simp only [List.length_append, List.length_cons, List.length_nil]; omega) | (subst_vars; omega)) : False).elim
theorem ok_l_halves (T : Tx K mg) (d : Nat) : FnOk P w K mg base CX0 (3 + 1 + d) T.d_l_halves.f T.d_l_halves.fd ["_law_row"] (sp_l_halves T d) := by
  induction d with
  | zero => exact T.d_l_halves.F.ok sc_l_halves (fun vs H Q E h => h.elim) (fun cdv A outer s H vs Q E hr h => h.elim)
  | succ d ih =>
    refine T.d_l_halves.F.ok sc_l_halves (fun vs H Q E h => ?_) (fun cdv A outer s H vs Q E hr h => ?_)
    · obtain ⟨row, rs, vs_rs, rfl, _⟩ := h
      rfl
    · obtain ⟨row, rs, vs_rs, rfl, ⟨c0, rc0⟩, c1, c2, c3, kont⟩ := h
      refine ⟨_, (pss_cons (ps_if (pt_cmpR (Ow.op_eqR hr.units Ow.g2) (pv 0) (pe_lst pa_nil) (nomark _)) (pss_one (ps_ret (pe_tup (pa_cons pe_int (pa_cons pe_int pa_nil))))) pss_nil)
        (pss_cons (ps_if (pt_cmpR op_eq (Ow.pe_nmi (pe_callB call_len_seq (by rfl) T.z_len (by decide +kernel) (pa_cons (pv 0) pa_nil))) pe_int (nomark _)) (pss_one (ps_ret (pe_ix ix_list (pv 0) pe_int (fun _ _ => rfl)))) pss_nil)
        (pss_cons (ps_set (i := 1) sc_l_halves.nd rfl (Or.inl rfl) (pe_op Ow.op_divN (Ow.pe_nmi (pe_callB call_len_seq (by rfl) T.z_len (by decide +kernel) (pa_cons (pv 0) pa_nil))) pe_int))
        (pss_one (ps_ret (pe_call (Ow.ok_plus T) (hr.mono (by omega : 3 ≤ 3 + 1 + d)) (by rfl) T.d_plus.m T.d_plus.F.kp T.d_plus.b .nil pass0 (pa_cons (pe_call ih (hr.mono (Nat.le_refl _)) (by rfl) T.d_l_halves.m T.d_l_halves.F.kp T.d_l_halves.b .nil pass0 (pa_cons (pe_slice sl_list (pv 0) po_none (po_some (pv 1))) pa_nil)) (pa_cons (pe_call ih (hr.mono (Nat.le_refl _)) (by rfl) T.d_l_halves.m T.d_l_halves.F.kp T.d_l_halves.b .nil pass0 (pa_cons (pe_slice sl_list (pv 0) (po_some (pv 1)) po_none) pa_nil)) pa_nil)))))))), ?_⟩
      refine ⟨_, rfl, ?_⟩
      refine ⟨by show 0 ≤ sizeLine; decide, fun p h_p => ?_⟩
      refine ⟨_, _, _, _, _, _, rfl, rfl, (SqL.of (Ow.at_new h_p c0)), (SqL.of upd_same), (Ow.Rws.new h_p rc0), Ow.Rws.nil, ?_⟩
      refine ⟨_, rfl, ?_⟩
      refine Ow.ifd (fun h1 => ?_) (fun h1 => ?_)
      · refine ⟨by show 2 ≤ sizeLine; decide, fun p_2 h_p_2 => ?_⟩
        have hfr : Ow.Fr rs (0) (1) := by first | exact Ow.fr_nil (by assumption) | exact Ow.fr_one c1 (by omega) (by assumption) | exact Ow.fr_cut (by assumption) (by assumption) (by assumption) (by assumption) (by assumption)
        have hfz := Ow.Fr.sz c1 c2 hfr
        exact kont 0 1 (by exact hfr) hfz.1 hfz.2 _ _ ((Ow.same_new h_p).trans (Ow.same_new h_p_2)) upd_same
      · refine ⟨_, rfl, ?_⟩
        refine ⟨_, _, rfl, .inl (SqL.of (Ow.at_new h_p c0)), ?_⟩
        refine ⟨_, rfl, fun len h_len => ?_⟩
        rw [(rc0).len] at h_len
        refine ⟨rfl, ?_⟩
        refine ⟨_, rfl, ?_⟩
        refine Ow.ifeqi (fun h2 => ?_) (fun h2 => ?_)
        · refine ⟨_, rfl, ?_⟩
          refine Ow.cc ?_
          refine Ow.ixrow (i := 0) (SqL.of (Ow.at_new h_p c0)) (Ow.Rws.new h_p rc0) (by first | assumption | exact Ow.divw64 (by omega) (by omega) | exact Ow.mul0 ⟨by omega, by omega⟩ | exact Ow.mul1 ⟨by omega, by omega⟩ | exact Ow.shl0 (by omega) (by omega) (by omega) | exact ⟨by omega, by omega⟩ | exact ⟨by omega, by omega, by omega⟩ | omega | (simp only [List.length_append, List.length_cons, List.length_nil]; omega) | (subst_vars; omega)) (by first | assumption | exact Ow.divw64 (by omega) (by omega) | exact Ow.mul0 ⟨by omega, by omega⟩ | exact Ow.mul1 ⟨by omega, by omega⟩ | exact Ow.shl0 (by omega) (by omega) (by omega) | exact ⟨by omega, by omega⟩ | exact ⟨by omega, by omega, by omega⟩ | omega | (simp only [List.length_append, List.length_cons, List.length_nil]; omega) | (subst_vars; omega)) (fun tp r h_r h_tp => ?_)
          have hfr : Ow.Fr rs (r.1) (r.2) := by first | exact Ow.fr_nil (by assumption) | exact Ow.fr_one c1 (by omega) (by assumption) | exact Ow.fr_cut (by assumption) (by assumption) (by assumption) (by assumption) (by assumption)
          have hfz := Ow.Fr.sz c1 c2 hfr
          exact kont r.1 r.2 (by exact hfr) hfz.1 hfz.2 _ _ (Ow.same_new h_p) h_tp
        · refine ⟨_, rfl, ?_⟩
          refine ⟨_, _, rfl, .inl (SqL.of (Ow.at_new h_p c0)), ?_⟩
          refine ⟨_, rfl, fun len_2 h_len_2 => ?_⟩
          rw [(rc0).len] at h_len_2
          refine ⟨_, _, rfl, rfl, Ow.divz (by first | assumption | exact Ow.divw64 (by omega) (by omega) | exact Ow.mul0 ⟨by omega, by omega⟩ | exact Ow.mul1 ⟨by omega, by omega⟩ | exact Ow.shl0 (by omega) (by omega) (by omega) | exact ⟨by omega, by omega⟩ | exact ⟨by omega, by omega, by omega⟩ | omega | (simp only [List.length_append, List.length_cons, List.length_nil]; omega) | (subst_vars; omega)) (Ow.Sz.lit (n := 2) (i := 2) (by decide)) (by decide) (by decide), fun l_at h_l_at => ?_⟩
          refine ⟨_, rfl, ?_⟩
          refine ⟨_, rfl, ?_⟩
          refine ⟨_, rfl, ?_⟩
          refine ⟨_, _, rfl, (SqL.of (Ow.at_new h_p c0)), fun p_3 h_p_3 => ?_⟩
          rcases d with _ | d
          · exact ((by have := Ow.rows_ne (by assumption); omega) : False).elim
          refine ⟨_, _, _, rfl, ⟨(Ow.slv_take (k := l_at) (by first | assumption | exact Ow.divw64 (by omega) (by omega) | exact Ow.mul0 ⟨by omega, by omega⟩ | exact Ow.mul1 ⟨by omega, by omega⟩ | exact Ow.shl0 (by omega) (by omega) (by omega) | exact ⟨by omega, by omega⟩ | exact ⟨by omega, by omega, by omega⟩ | omega | (simp only [List.length_append, List.length_cons, List.length_nil]; omega) | (subst_vars; omega))), (Ow.Rws.take (Ow.Rws.new h_p_3 (Ow.Rws.new h_p rc0)) l_at.toNat)⟩, (by first | exact Ow.FrOk.take c1 _ | exact Ow.FrOk.drop c1 _ | (first | rw [List.length_take] | rw [List.length_drop]); have := Nat.pow_succ (n := 2) (m := d); omega), (by first | exact Ow.FrOk.take c1 _ | exact Ow.FrOk.drop c1 _ | (first | rw [List.length_take] | rw [List.length_drop]); have := Nat.pow_succ (n := 2) (m := d); omega), (by first | exact Ow.FrOk.take c1 _ | exact Ow.FrOk.drop c1 _ | (first | rw [List.length_take] | rw [List.length_drop]); have := Nat.pow_succ (n := 2) (m := d); omega), fun p_4 q h3 h4 h5 p_5 Hn h6 h7 => ?_⟩
          refine ⟨_, rfl, ?_⟩
          refine ⟨_, rfl, ?_⟩
          refine ⟨_, rfl, ?_⟩
          refine ⟨_, _, rfl, (SqL.of (h6 _ _ (Ow.at_new h_p_3 (Ow.at_new h_p c0)))), fun p_6 h_p_6 => ?_⟩
          refine ⟨_, _, _, rfl, ⟨(Ow.slv_drop (k := l_at) (by first | assumption | exact Ow.divw64 (by omega) (by omega) | exact Ow.mul0 ⟨by omega, by omega⟩ | exact Ow.mul1 ⟨by omega, by omega⟩ | exact Ow.shl0 (by omega) (by omega) (by omega) | exact ⟨by omega, by omega⟩ | exact ⟨by omega, by omega, by omega⟩ | omega | (simp only [List.length_append, List.length_cons, List.length_nil]; omega) | (subst_vars; omega))), (Ow.Rws.drop (Ow.Rws.new h_p_6 (Ow.Rws.same h6 (Ow.Rws.new h_p_3 (Ow.Rws.new h_p rc0)))) l_at.toNat)⟩, (by first | exact Ow.FrOk.take c1 _ | exact Ow.FrOk.drop c1 _ | (first | rw [List.length_take] | rw [List.length_drop]); have := Nat.pow_succ (n := 2) (m := d); omega), (by first | exact Ow.FrOk.take c1 _ | exact Ow.FrOk.drop c1 _ | (first | rw [List.length_take] | rw [List.length_drop]); have := Nat.pow_succ (n := 2) (m := d); omega), (by first | exact Ow.FrOk.take c1 _ | exact Ow.FrOk.drop c1 _ | (first | rw [List.length_take] | rw [List.length_drop]); have := Nat.pow_succ (n := 2) (m := d); omega), fun p_7 q_2 h8 h9 h10 p_8 Hn_2 h11 h12 => ?_⟩
          refine ⟨_, _, _, _, _, _, rfl, (h11 _ _ (Ow.at_new h_p_6 h7)), (by exact Ow.Fr.qpos (by assumption)), (Ow.Sz.mono h4 (by decide : 700 ≤ 2410)), (Ow.Sz.mono h5 (by decide : 700 ≤ 2410)), h12, (by exact Ow.Fr.qpos (by assumption)), (Ow.Sz.mono h9 (by decide : 700 ≤ 2410)), (Ow.Sz.mono h10 (by decide : 700 ≤ 2410)), fun p_9 q_3 h13 h14 h15 h16 h17 p_10 Hn_3 h18 h19 h20 => ?_⟩
          have hfr : Ow.Fr rs (p_9) (q_3) := by first | exact Ow.fr_nil (by assumption) | exact Ow.fr_one c1 (by omega) (by assumption) | exact Ow.fr_cut (by assumption) (by assumption) (by assumption) (by assumption) (by assumption)
          have hfz := Ow.Fr.sz c1 c2 hfr
          exact kont p_9 q_3 (by exact hfr) hfz.1 hfz.2 _ _ ((((((Ow.same_new h_p).trans (Ow.same_new h_p_3)).trans h6).trans (Ow.same_new h_p_6)).trans h11).trans h18) h20
theorem ok_minus (T : Tx K mg) : FnOk P w K mg base CX0 4 T.d_minus.f T.d_minus.fd ["one", "other"] (sp_minus T) := by
  refine T.d_minus.F.ok sc_minus (fun vs H Q E h => ?_) (fun cdv A outer s H vs Q E hr h => ?_)
  · obtain ⟨one, other, a, b, c, d, rfl, _⟩ := h
    rfl
  · obtain ⟨one, other, a, b, c, d, rfl, c0, c1, c2, c3, c4, c5, c6, c7, kont⟩ := h
    refine ⟨_, (pss_one (ps_ret (pe_call (Ow.ok_plus T) (hr.mono (by decide : 3 ≤ 3)) (by rfl) T.d_plus.m T.d_plus.F.kp T.d_plus.b .nil pass0 (pa_cons (pv 0) (pa_cons (pe_tup (pa_cons (pe_op op_sub pe_int (pe_ix ix_tup (pv 1) pe_int (fun _ _ => rfl))) (pa_cons (pe_ix ix_tup (pv 1) pe_int (fun _ _ => rfl)) pa_nil))) pa_nil))))), ?_⟩
    refine ⟨_, rfl, ?_⟩
    refine ⟨_, rfl, ?_⟩
    refine ⟨_, _, _, _, rfl, rfl, (SqT.of c4), (by first | rfl | decide), ?_⟩
    refine ⟨_, _, rfl, rfl, ?_⟩
    refine ⟨_, rfl, ?_⟩
    refine ⟨_, _, _, _, rfl, rfl, (SqT.of c4), (by first | rfl | decide), ?_⟩
    refine ⟨by show 2 ≤ sizeLine; decide, fun p h_p => ?_⟩
    refine ⟨_, _, _, _, _, _, rfl, (Ow.at_new h_p c0), (by first | assumption | exact Ow.divw64 (by omega) (by omega) | exact Ow.mul0 ⟨by omega, by omega⟩ | exact Ow.mul1 ⟨by omega, by omega⟩ | exact Ow.shl0 (by omega) (by omega) (by omega) | exact ⟨by omega, by omega⟩ | exact ⟨by omega, by omega, by omega⟩ | omega | (simp only [List.length_append, List.length_cons, List.length_nil]; omega) | (subst_vars; omega)), (Ow.Sz.mono c2 (by decide : 2400 ≤ 2410)), (Ow.Sz.mono c3 (by decide : 2400 ≤ 2410)), upd_same, (by first | assumption | exact Ow.divw64 (by omega) (by omega) | exact Ow.mul0 ⟨by omega, by omega⟩ | exact Ow.mul1 ⟨by omega, by omega⟩ | exact Ow.shl0 (by omega) (by omega) (by omega) | exact ⟨by omega, by omega⟩ | exact ⟨by omega, by omega, by omega⟩ | omega | (simp only [List.length_append, List.length_cons, List.length_nil]; omega) | (subst_vars; omega)), (Ow.Sz.mono (Ow.Sz.sub (Ow.Sz.mono (Ow.Sz.lit (n := 1) (i := 0) (by decide)) (by decide : 1 ≤ 2400)) c6) (by decide : 2401 ≤ 2410)), (Ow.Sz.mono c7 (by decide : 2400 ≤ 2410)), fun p_2 q h1 h2 h3 h4 h5 p_3 Hn h6 h7 h8 => ?_⟩
    have e1 : (0 - c) * b = -(c * b) := by rw [Int.zero_sub, Int.neg_mul]
    rw [e1, ← Int.sub_eq_add_neg] at h1
    exact kont p_2 q (by first | assumption | exact Ow.divw64 (by omega) (by omega) | exact Ow.mul0 ⟨by omega, by omega⟩ | exact Ow.mul1 ⟨by omega, by omega⟩ | exact Ow.shl0 (by omega) (by omega) (by omega) | exact ⟨by omega, by omega⟩ | exact ⟨by omega, by omega, by omega⟩ | omega | (simp only [List.length_append, List.length_cons, List.length_nil]; omega) | (subst_vars; omega)) (by first | assumption | exact Ow.divw64 (by omega) (by omega) | exact Ow.mul0 ⟨by omega, by omega⟩ | exact Ow.mul1 ⟨by omega, by omega⟩ | exact Ow.shl0 (by omega) (by omega) (by omega) | exact ⟨by omega, by omega⟩ | exact ⟨by omega, by omega, by omega⟩ | omega | (simp only [List.length_append, List.length_cons, List.length_nil]; omega) | (subst_vars; omega)) (by first | assumption | exact Ow.divw64 (by omega) (by omega) | exact Ow.mul0 ⟨by omega, by omega⟩ | exact Ow.mul1 ⟨by omega, by omega⟩ | exact Ow.shl0 (by omega) (by omega) (by omega) | exact ⟨by omega, by omega⟩ | exact ⟨by omega, by omega, by omega⟩ | omega | (simp only [List.length_append, List.length_cons, List.length_nil]; omega) | (subst_vars; omega)) h4 h5 _ _ ((Ow.same_new h_p).trans h6) (Same.free (Ow.same_new h_p) h7) h8
theorem ok_l_left_over (T : Tx K mg) : FnOk P w K mg base CX0 5 T.d_l_left_over.f T.d_l_left_over.fd ["_law_row", "_law_total"] (sp_l_left_over T) := by
  refine T.d_l_left_over.F.ok sc_l_left_over (fun vs H Q E h => ?_) (fun cdv A outer s H vs Q E hr h => ?_)
  · obtain ⟨row, total, rs, p0, q0, vs_rs, rfl, _⟩ := h
    rfl
  · obtain ⟨row, total, rs, p0, q0, vs_rs, rfl, ⟨c0, rc0⟩, c1, c2, c3, c4, c5, c6, kont⟩ := h
    refine ⟨_, (pss_cons (ps_for PassesOwn.never rfl (pi_list (pv 0)) (pg_name (i := 2) sc_l_left_over.nd rfl (Or.inl rfl)) (pss_one (ps_set (i := 1) sc_l_left_over.nd rfl (Or.inl rfl) (pe_call (Ow.ok_minus T) (hr.mono (by decide : 4 ≤ 4)) (by rfl) T.d_minus.m T.d_minus.F.kp T.d_minus.b .nil pass0 (pa_cons (pv 1) (pa_cons (pv 2) pa_nil))))))
        (pss_one (ps_ret (pv 1)))), ?_⟩
    refine ⟨_, rfl, ?_⟩
    refine ⟨_, rfl, ⟨_, (SqL.of c0)⟩, ?_⟩
    refine for_list (K := K) (a := row) (xs := vs_rs) (fun ixv σ2 H2 => ∃ (f : Addr) (fp : Int) (fq : Int) (v_2 : Option V), σ2 = [some (.ref row), some (.ref f), v_2] ∧ Same H H2 ∧ H2 f = some (.tup [.int (fp), .int (fq)]) ∧ (Ow.Fr (rs.drop ixv) fp fq) ∧ (Ow.Sz 700 fp) ∧ (Ow.Sz 700 fq) ∧ True) ⟨total, _, _, _, rfl, (Same.refl _), c3, (by first | exact c4 | assumption), (by first | exact c4 | assumption), (by first | exact c4 | assumption), trivial⟩ (fun i σ2 H2 _ hz => ?_) ?_ ?_
    · obtain ⟨f, fp, fq, _, rfl, h1, h2, h3, h4, h5, _⟩ := hz
      exact (SqL.of (h1 _ _ c0))
    · rintro i xit _ Hn h6 ⟨f_2, fp_2, fq_2, _, rfl, h7, h8, h9, h10, h11, _⟩
      obtain ⟨tp, r, rfl, h_tp, h_r⟩ := Ow.Rws.get (Ow.Rws.same h7 rc0) h6
      have z0_r : Ow.Sz 32 r.1 := Ow.r1_sz (Ow.FrOk.get (by first | assumption | exact Ow.FrOk.rev (by assumption)) h_r)
      have z1_r : Ow.Sz 11 r.2 := Ow.r2_sz (Ow.FrOk.get (by first | assumption | exact Ow.FrOk.rev (by assumption)) h_r)
      have hit := (Ow.FrOk.get (by first | assumption | exact Ow.FrOk.rev (by assumption)) h_r)
      have hf0 := h9
      have hq0 := hf0.2.1
      have hlt := (List.getElem?_eq_some_iff.mp h_r).1
      refine ⟨_, rfl, ?_⟩
      refine ⟨_, rfl, ?_⟩
      refine ⟨_, _, _, _, _, _, rfl, h8, (by first | assumption | exact Ow.divw64 (by omega) (by omega) | exact Ow.mul0 ⟨by omega, by omega⟩ | exact Ow.mul1 ⟨by omega, by omega⟩ | exact Ow.shl0 (by omega) (by omega) (by omega) | exact ⟨by omega, by omega⟩ | exact ⟨by omega, by omega, by omega⟩ | omega | (simp only [List.length_append, List.length_cons, List.length_nil]; omega) | (subst_vars; omega)), (Ow.Sz.mono h10 (by decide : 700 ≤ 2400)), (Ow.Sz.mono h11 (by decide : 700 ≤ 2400)), h_tp, (by first | assumption | exact Ow.divw64 (by omega) (by omega) | exact Ow.mul0 ⟨by omega, by omega⟩ | exact Ow.mul1 ⟨by omega, by omega⟩ | exact Ow.shl0 (by omega) (by omega) (by omega) | exact ⟨by omega, by omega⟩ | exact ⟨by omega, by omega, by omega⟩ | omega | (simp only [List.length_append, List.length_cons, List.length_nil]; omega) | (subst_vars; omega)), (Ow.Sz.mono z0_r (by decide : 32 ≤ 2400)), (Ow.Sz.mono z1_r (by decide : 11 ≤ 2400)), fun p q h12 h13 h14 h15 h16 p_2 Hn_2 h17 h18 h19 => ?_⟩
      exact ⟨p_2, _, _, _, rfl, (h7.trans h17), h19, (by first | exact Ow.Fr.down h_r hit.2.2.1 hf0 (by assumption) (by assumption) (by assumption) | exact (Ow.Fr.sz2 (by exact Ow.Fr.down h_r hit.2.2.1 hf0 (by assumption) (by assumption) (by assumption)) (Ow.FrOk.drop c1 _) (by rw [List.length_drop]; omega)).1 | exact (Ow.Fr.sz2 (by exact Ow.Fr.down h_r hit.2.2.1 hf0 (by assumption) (by assumption) (by assumption)) (Ow.FrOk.drop c1 _) (by rw [List.length_drop]; omega)).2), (by first | exact Ow.Fr.down h_r hit.2.2.1 hf0 (by assumption) (by assumption) (by assumption) | exact (Ow.Fr.sz2 (by exact Ow.Fr.down h_r hit.2.2.1 hf0 (by assumption) (by assumption) (by assumption)) (Ow.FrOk.drop c1 _) (by rw [List.length_drop]; omega)).1 | exact (Ow.Fr.sz2 (by exact Ow.Fr.down h_r hit.2.2.1 hf0 (by assumption) (by assumption) (by assumption)) (Ow.FrOk.drop c1 _) (by rw [List.length_drop]; omega)).2), (by first | exact Ow.Fr.down h_r hit.2.2.1 hf0 (by assumption) (by assumption) (by assumption) | exact (Ow.Fr.sz2 (by exact Ow.Fr.down h_r hit.2.2.1 hf0 (by assumption) (by assumption) (by assumption)) (Ow.FrOk.drop c1 _) (by rw [List.length_drop]; omega)).1 | exact (Ow.Fr.sz2 (by exact Ow.Fr.down h_r hit.2.2.1 hf0 (by assumption) (by assumption) (by assumption)) (Ow.FrOk.drop c1 _) (by rw [List.length_drop]; omega)).2), trivial⟩
    · rintro _ Hn_3 ⟨f_3, fp_3, fq_3, _, rfl, h20, h21, h22, h23, h24, _⟩
      have hlen := (rc0).len
      have hall := h22
      rw [hlen, List.drop_length] at hall
      have hz := hall.none
      refine ⟨_, rfl, ?_⟩
      exact kont fp_3 fq_3 (by first | exact hz.1 | exact hz.2) (by first | exact hz.1 | exact hz.2) _ _ h20 h21
theorem ok_all_ways (T : Tx K mg) : FnOk P w K mg base CX0 1 T.d_all_ways.f T.d_all_ways.fd [] (sp_all_ways T) := by
  refine T.d_all_ways.F.ok sc_all_ways (fun vs H Q E h => ?_) (fun cdv A outer s H vs Q E hr h => ?_)
  · obtain ⟨rfl, _⟩ := h
    rfl
  · obtain ⟨rfl, kont⟩ := h
    refine ⟨_, (pss_one (ps_ret (pe_lst (pa_cons pe_str (pa_cons pe_str (pa_cons pe_str (pa_cons pe_str pa_nil))))))), ?_⟩
    refine ⟨by show 4 ≤ sizeLine; decide, fun p h_p => ?_⟩
    exact kont _ h_p
theorem ok_way_of (T : Tx K mg) : FnOk P w K mg base CX0 3 T.d_way_of.f T.d_way_of.fd ["word"] (sp_way_of T) := by
  refine T.d_way_of.F.ok sc_way_of (fun vs H Q E h => ?_) (fun cdv A outer s H vs Q E hr h => ?_)
  · obtain ⟨word, wy, rfl, _⟩ := h
    rfl
  · obtain ⟨word, wy, rfl, c0, kont⟩ := h
    refine ⟨_, (pss_cons (ps_if (PW.pt (pw_or (pt_not (pt_val (pe_callB call_isi (by rfl) T.z_isinstance (by decide +kernel) (pa_cons (pv 0) (pa_cons (pe_bltn (v := .ty "str") (by rfl) T.z_str (by decide +kernel) rfl) pa_nil))))) (pw_or1 (pt_cmpR op_notIn_seq (pv 0) (pe_call0 (Ow.ok_all_ways T) (hr.mono (by decide : 1 ≤ 2)) (by rfl) T.d_all_ways.m T.d_all_ways.F.kp T.d_all_ways.b .nil pass0) rfl)))) (pss_one ps_never) pss_nil)
        (pss_cons (ps_if (pt_cmpR op_eq (pv 0) pe_str (nomark _)) (pss_one (ps_ret (Ow.pe_make00 T.m0_Down (by rfl) T.k_Down.m))) pss_nil)
        (pss_cons (ps_if (pt_cmpR op_eq (pv 0) pe_str (nomark _)) (pss_one (ps_ret (Ow.pe_make00 T.m0_Up (by rfl) T.k_Up.m))) pss_nil)
        (pss_cons (ps_if (pt_cmpR op_eq (pv 0) pe_str (nomark _)) (pss_one (ps_ret (Ow.pe_make00 T.m0_Cut (by rfl) T.k_Cut.m))) pss_nil)
        (pss_one (ps_ret (Ow.pe_make00 T.m0_Near (by rfl) T.k_Near.m))))))), ?_⟩
    cases wy
    · obtain rfl : word = "down" := by assumption
      refine ⟨_, rfl, ?_⟩
      refine ⟨_, _, _, _, true, rfl, .ty _, .base (.str _), kit_ty (by decide +kernel), ?_⟩
      refine ⟨_, rfl, ?_⟩
      refine iteF ?_
      refine ⟨_, rfl, ?_⟩
      refine ⟨rfl, fun p h_p => ?_⟩
      refine ⟨_, _, rfl, .inl (SqL.of upd_same), rfl, rfl, ?_⟩
      refine ⟨false, by decide +kernel, ?_⟩
      refine iteF ?_
      refine ⟨_, rfl, ?_⟩
      refine ⟨rfl, ?_⟩
      refine ⟨_, rfl, ?_⟩
      refine Ow.ifeqs (fun _ => ?_) (fun h => absurd rfl h)
      intro o dx h1 h2 h3
      exact kont _ _ _ (((Ow.same_new h_p).trans (Ow.same_new h2)).trans (Ow.same_new (Ow.free2 h3 h1))) (Same.free (Ow.same_new h_p) h1) upd_same
    · obtain rfl : word = "up" := by assumption
      refine ⟨_, rfl, ?_⟩
      refine ⟨_, _, _, _, true, rfl, .ty _, .base (.str _), kit_ty (by decide +kernel), ?_⟩
      refine ⟨_, rfl, ?_⟩
      refine iteF ?_
      refine ⟨_, rfl, ?_⟩
      refine ⟨rfl, fun p_2 h_p_2 => ?_⟩
      refine ⟨_, _, rfl, .inl (SqL.of upd_same), rfl, rfl, ?_⟩
      refine ⟨false, by decide +kernel, ?_⟩
      refine iteF ?_
      refine ⟨_, rfl, ?_⟩
      refine ⟨rfl, ?_⟩
      refine ⟨_, rfl, ?_⟩
      refine Ow.ifeqs (fun h => absurd h (by decide +kernel)) (fun _ => ?_)
      refine ⟨_, rfl, ?_⟩
      refine ⟨rfl, ?_⟩
      refine ⟨_, rfl, ?_⟩
      refine Ow.ifeqs (fun _ => ?_) (fun h => absurd rfl h)
      intro o_2 dx_2 h4 h5 h6
      exact kont _ _ _ (((Ow.same_new h_p_2).trans (Ow.same_new h5)).trans (Ow.same_new (Ow.free2 h6 h4))) (Same.free (Ow.same_new h_p_2) h4) upd_same
    · obtain rfl : word = "cut" := by assumption
      refine ⟨_, rfl, ?_⟩
      refine ⟨_, _, _, _, true, rfl, .ty _, .base (.str _), kit_ty (by decide +kernel), ?_⟩
      refine ⟨_, rfl, ?_⟩
      refine iteF ?_
      refine ⟨_, rfl, ?_⟩
      refine ⟨rfl, fun p_3 h_p_3 => ?_⟩
      refine ⟨_, _, rfl, .inl (SqL.of upd_same), rfl, rfl, ?_⟩
      refine ⟨false, by decide +kernel, ?_⟩
      refine iteF ?_
      refine ⟨_, rfl, ?_⟩
      refine ⟨rfl, ?_⟩
      refine ⟨_, rfl, ?_⟩
      refine Ow.ifeqs (fun h => absurd h (by decide +kernel)) (fun _ => ?_)
      refine ⟨_, rfl, ?_⟩
      refine ⟨rfl, ?_⟩
      refine ⟨_, rfl, ?_⟩
      refine Ow.ifeqs (fun h => absurd h (by decide +kernel)) (fun _ => ?_)
      refine ⟨_, rfl, ?_⟩
      refine ⟨rfl, ?_⟩
      refine ⟨_, rfl, ?_⟩
      refine Ow.ifeqs (fun _ => ?_) (fun h => absurd rfl h)
      intro o_3 dx_3 h7 h8 h9
      exact kont _ _ _ (((Ow.same_new h_p_3).trans (Ow.same_new h8)).trans (Ow.same_new (Ow.free2 h9 h7))) (Same.free (Ow.same_new h_p_3) h7) upd_same
    · obtain rfl : word = "near" := by assumption
      refine ⟨_, rfl, ?_⟩
      refine ⟨_, _, _, _, true, rfl, .ty _, .base (.str _), kit_ty (by decide +kernel), ?_⟩
      refine ⟨_, rfl, ?_⟩
      refine iteF ?_
      refine ⟨_, rfl, ?_⟩
      refine ⟨rfl, fun p_4 h_p_4 => ?_⟩
      refine ⟨_, _, rfl, .inl (SqL.of upd_same), rfl, rfl, ?_⟩
      refine ⟨false, by decide +kernel, ?_⟩
      refine iteF ?_
      refine ⟨_, rfl, ?_⟩
      refine ⟨rfl, ?_⟩
      refine ⟨_, rfl, ?_⟩
      refine Ow.ifeqs (fun h => absurd h (by decide +kernel)) (fun _ => ?_)
      refine ⟨_, rfl, ?_⟩
      refine ⟨rfl, ?_⟩
      refine ⟨_, rfl, ?_⟩
      refine Ow.ifeqs (fun h => absurd h (by decide +kernel)) (fun _ => ?_)
      refine ⟨_, rfl, ?_⟩
      refine ⟨rfl, ?_⟩
      refine ⟨_, rfl, ?_⟩
      refine Ow.ifeqs (fun h => absurd h (by decide +kernel)) (fun _ => ?_)
      intro o_4 dx_4 h10 h11 h12
      exact kont _ _ _ (((Ow.same_new h_p_4).trans (Ow.same_new h11)).trans (Ow.same_new (Ow.free2 h12 h10))) (Same.free (Ow.same_new h_p_4) h10) upd_same
theorem ok_l_right (T : Tx K mg) : FnOk P w K mg base CX0 1 T.d_l_right.f T.d_l_right.fd ["_law_word", "_law_top", "_law_bottom", "_law_found"] (sp_l_right T) := by
  refine T.d_l_right.F.ok sc_l_right (fun vs H Q E h => ?_) (fun cdv A outer s H vs Q E hr h => ?_)
  · obtain ⟨word, top, bottom, found, wy, rfl, _⟩ := h
    rfl
  · obtain ⟨word, top, bottom, found, wy, rfl, c0, c1, c2, c3, c4, c5, kont⟩ := h
    refine ⟨_, (pss_cons (ps_set (i := 4) sc_l_right.nd rfl (Or.inl rfl) (Ow.pe_nmi (pe_op op_sub (pe_op Ow.op_mulN (pv 3) (pv 2)) (pv 1))))
        (pss_cons (ps_if (PW.pt (pw_or (pt_cmpR op_eq (pv 0) pe_str (nomark _)) (pw_or1 (PW.pt (pw_and (pt_cmpR op_eq (pv 0) pe_str (nomark _)) (pw_and1 (pt_cmpR op_ge (pv 1) pe_int (nomark _)))))))) (pss_one (ps_ret (pe_chain op_lt op_le (pe_op op_sub pe_int (pv 2)) (pv 4) pe_int))) pss_nil)
        (pss_cons (ps_if (pt_cmpR op_eq (pv 0) pe_str (nomark _)) (pss_one (ps_ret (pe_or (pe_cmpR op_lt (pe_op Ow.op_mulN pe_int (Ow.pe_nmi (pe_callB call_abs (by rfl) T.z_abs (by decide +kernel) (pa_cons (pv 4) pa_nil)))) (pv 2) (nomark _)) (pe_one (pe_and (pe_cmpR op_eq (pe_op Ow.op_mulN pe_int (Ow.pe_nmi (pe_callB call_abs (by rfl) T.z_abs (by decide +kernel) (pa_cons (pv 4) pa_nil)))) (pv 2) (nomark _)) (pe_one (pe_cmpR op_eq (pe_op Ow.op_modN (pv 3) pe_int) pe_int (nomark _)))))))) pss_nil)
        (pss_one (ps_ret (pe_chain op_le op_lt pe_int (pv 4) (pv 2))))))), ?_⟩
    cases wy
    · obtain rfl : word = "down" := by assumption
      have lz := c2
      unfold Ow.Lies at lz
      dsimp only at lz
      refine ⟨_, rfl, ?_⟩
      refine ⟨_, rfl, ?_⟩
      refine ⟨_, _, rfl, rfl, (.inr (Ow.mulx c5 c4 (by decide))), fun m h_m => ?_⟩
      have z_m : Ow.Sz 1602 m := by rw [h_m]; exact (Ow.Sz.mul c5 c4)
      refine ⟨_, rfl, ?_⟩
      refine ⟨_, _, rfl, rfl, ?_⟩
      refine ⟨_, rfl, fun l_miss h_l_miss => ?_⟩
      have z_l_miss : Ow.Sz 1603 l_miss := by rw [h_l_miss]; exact (Ow.Sz.sub z_m (Ow.Sz.mono c3 (by decide : 800 ≤ 1602)))
      refine ⟨_, rfl, ?_⟩
      refine ⟨rfl, ?_⟩
      refine ⟨_, rfl, ?_⟩
      refine Ow.ifeqs (fun _ => ?_) (fun h => absurd rfl h)
      refine iteT ?_
      refine ⟨_, rfl, ?_⟩
      refine ⟨_, _, rfl, rfl, ?_⟩
      refine ⟨_, rfl, ?_⟩
      refine ⟨_, _, rfl, rfl, ?_⟩
      refine ⟨_, rfl, ?_⟩
      refine Ow.ifd (fun h1 => ?_) (fun h1 => ?_)
      · refine ⟨_, _, rfl, rfl, ?_⟩
        refine Ow.eqd (by first | assumption | exact Ow.divw64 (by omega) (by omega) | exact Ow.mul0 ⟨by omega, by omega⟩ | exact Ow.mul1 ⟨by omega, by omega⟩ | exact Ow.shl0 (by omega) (by omega) (by omega) | exact ⟨by omega, by omega⟩ | exact ⟨by omega, by omega, by omega⟩ | omega | (simp only [List.length_append, List.length_cons, List.length_nil]; omega) | (subst_vars; omega)) ?_
        exact kont
      · exact ((by first | assumption | exact Ow.divw64 (by omega) (by omega) | exact Ow.mul0 ⟨by omega, by omega⟩ | exact Ow.mul1 ⟨by omega, by omega⟩ | exact Ow.shl0 (by omega) (by omega) (by omega) | exact ⟨by omega, by omega⟩ | exact ⟨by omega, by omega, by omega⟩ | omega | (simp only [List.length_append, List.length_cons, List.length_nil]; omega) | (subst_vars; omega)) : False).elim
    · obtain rfl : word = "up" := by assumption
      have lz := c2
      unfold Ow.Lies at lz
      dsimp only at lz
      refine ⟨_, rfl, ?_⟩
      refine ⟨_, rfl, ?_⟩
      refine ⟨_, _, rfl, rfl, (.inr (Ow.mulx c5 c4 (by decide))), fun m_2 h_m_2 => ?_⟩
      have z_m_2 : Ow.Sz 1602 m_2 := by rw [h_m_2]; exact (Ow.Sz.mul c5 c4)
      refine ⟨_, rfl, ?_⟩
      refine ⟨_, _, rfl, rfl, ?_⟩
      refine ⟨_, rfl, fun l_miss_2 h_l_miss_2 => ?_⟩
      have z_l_miss_2 : Ow.Sz 1603 l_miss_2 := by rw [h_l_miss_2]; exact (Ow.Sz.sub z_m_2 (Ow.Sz.mono c3 (by decide : 800 ≤ 1602)))
      refine ⟨_, rfl, ?_⟩
      refine ⟨rfl, ?_⟩
      refine ⟨_, rfl, ?_⟩
      refine Ow.ifeqs (fun h => absurd h (by decide +kernel)) (fun _ => ?_)
      refine ⟨_, rfl, ?_⟩
      refine ⟨rfl, ?_⟩
      refine ⟨_, rfl, ?_⟩
      refine Ow.ifeqs (fun h => absurd h (by decide +kernel)) (fun _ => ?_)
      refine iteF ?_
      refine ⟨_, rfl, ?_⟩
      refine ⟨rfl, ?_⟩
      refine ⟨_, rfl, ?_⟩
      refine Ow.ifeqs (fun h => absurd h (by decide +kernel)) (fun _ => ?_)
      refine ⟨_, rfl, ?_⟩
      refine ⟨_, _, rfl, rfl, ?_⟩
      refine ⟨_, rfl, ?_⟩
      refine Ow.ifd (fun h2 => ?_) (fun h2 => ?_)
      · refine ⟨_, rfl, ?_⟩
        refine ⟨_, _, rfl, rfl, ?_⟩
        refine Ow.eqd (by first | assumption | exact Ow.divw64 (by omega) (by omega) | exact Ow.mul0 ⟨by omega, by omega⟩ | exact Ow.mul1 ⟨by omega, by omega⟩ | exact Ow.shl0 (by omega) (by omega) (by omega) | exact ⟨by omega, by omega⟩ | exact ⟨by omega, by omega, by omega⟩ | omega | (simp only [List.length_append, List.length_cons, List.length_nil]; omega) | (subst_vars; omega)) ?_
        exact kont
      · exact ((by first | assumption | exact Ow.divw64 (by omega) (by omega) | exact Ow.mul0 ⟨by omega, by omega⟩ | exact Ow.mul1 ⟨by omega, by omega⟩ | exact Ow.shl0 (by omega) (by omega) (by omega) | exact ⟨by omega, by omega⟩ | exact ⟨by omega, by omega, by omega⟩ | omega | (simp only [List.length_append, List.length_cons, List.length_nil]; omega) | (subst_vars; omega)) : False).elim
    · obtain rfl : word = "cut" := by assumption
      have lz := c2
      unfold Ow.Lies at lz
      dsimp only at lz
      refine ⟨_, rfl, ?_⟩
      refine ⟨_, rfl, ?_⟩
      refine ⟨_, _, rfl, rfl, (.inr (Ow.mulx c5 c4 (by decide))), fun m_3 h_m_3 => ?_⟩
      have z_m_3 : Ow.Sz 1602 m_3 := by rw [h_m_3]; exact (Ow.Sz.mul c5 c4)
      refine ⟨_, rfl, ?_⟩
      refine ⟨_, _, rfl, rfl, ?_⟩
      refine ⟨_, rfl, fun l_miss_3 h_l_miss_3 => ?_⟩
      have z_l_miss_3 : Ow.Sz 1603 l_miss_3 := by rw [h_l_miss_3]; exact (Ow.Sz.sub z_m_3 (Ow.Sz.mono c3 (by decide : 800 ≤ 1602)))
      refine ⟨_, rfl, ?_⟩
      refine ⟨rfl, ?_⟩
      refine ⟨_, rfl, ?_⟩
      refine Ow.ifeqs (fun h => absurd h (by decide +kernel)) (fun _ => ?_)
      refine ⟨_, rfl, ?_⟩
      refine ⟨rfl, ?_⟩
      refine ⟨_, rfl, ?_⟩
      refine Ow.ifeqs (fun _ => ?_) (fun h => absurd rfl h)
      refine ⟨_, rfl, ?_⟩
      refine ⟨_, _, rfl, rfl, ?_⟩
      refine ⟨_, rfl, ?_⟩
      refine Ow.ifd (fun h3 => ?_) (fun h3 => ?_)
      · refine ⟨_, rfl, ?_⟩
        refine ⟨_, _, rfl, rfl, ?_⟩
        refine ⟨_, rfl, ?_⟩
        refine ⟨_, _, rfl, rfl, ?_⟩
        refine ⟨_, rfl, ?_⟩
        refine Ow.ifd (fun h4 => ?_) (fun h4 => ?_)
        · refine ⟨_, _, rfl, rfl, ?_⟩
          refine Ow.eqd (by first | assumption | exact Ow.divw64 (by omega) (by omega) | exact Ow.mul0 ⟨by omega, by omega⟩ | exact Ow.mul1 ⟨by omega, by omega⟩ | exact Ow.shl0 (by omega) (by omega) (by omega) | exact ⟨by omega, by omega⟩ | exact ⟨by omega, by omega, by omega⟩ | omega | (simp only [List.length_append, List.length_cons, List.length_nil]; omega) | (subst_vars; omega)) ?_
          exact kont
        · exact ((by first | assumption | exact Ow.divw64 (by omega) (by omega) | exact Ow.mul0 ⟨by omega, by omega⟩ | exact Ow.mul1 ⟨by omega, by omega⟩ | exact Ow.shl0 (by omega) (by omega) (by omega) | exact ⟨by omega, by omega⟩ | exact ⟨by omega, by omega, by omega⟩ | omega | (simp only [List.length_append, List.length_cons, List.length_nil]; omega) | (subst_vars; omega)) : False).elim
      · refine ⟨_, rfl, ?_⟩
        refine ⟨rfl, ?_⟩
        refine ⟨_, rfl, ?_⟩
        refine Ow.ifeqs (fun h => absurd h (by decide +kernel)) (fun _ => ?_)
        refine ⟨_, rfl, ?_⟩
        refine ⟨_, _, rfl, rfl, ?_⟩
        refine ⟨_, rfl, ?_⟩
        refine Ow.ifd (fun h5 => ?_) (fun h5 => ?_)
        · refine ⟨_, rfl, ?_⟩
          refine ⟨_, _, rfl, rfl, ?_⟩
          refine Ow.eqd (by first | assumption | exact Ow.divw64 (by omega) (by omega) | exact Ow.mul0 ⟨by omega, by omega⟩ | exact Ow.mul1 ⟨by omega, by omega⟩ | exact Ow.shl0 (by omega) (by omega) (by omega) | exact ⟨by omega, by omega⟩ | exact ⟨by omega, by omega, by omega⟩ | omega | (simp only [List.length_append, List.length_cons, List.length_nil]; omega) | (subst_vars; omega)) ?_
          exact kont
        · exact ((by first | assumption | exact Ow.divw64 (by omega) (by omega) | exact Ow.mul0 ⟨by omega, by omega⟩ | exact Ow.mul1 ⟨by omega, by omega⟩ | exact Ow.shl0 (by omega) (by omega) (by omega) | exact ⟨by omega, by omega⟩ | exact ⟨by omega, by omega, by omega⟩ | omega | (simp only [List.length_append, List.length_cons, List.length_nil]; omega) | (subst_vars; omega)) : False).elim
    · obtain rfl : word = "near" := by assumption
      have lz := c2
      unfold Ow.Lies at lz
      dsimp only at lz
      refine ⟨_, rfl, ?_⟩
      refine ⟨_, rfl, ?_⟩
      refine ⟨_, _, rfl, rfl, (.inr (Ow.mulx c5 c4 (by decide))), fun m_4 h_m_4 => ?_⟩
      have z_m_4 : Ow.Sz 1602 m_4 := by rw [h_m_4]; exact (Ow.Sz.mul c5 c4)
      refine ⟨_, rfl, ?_⟩
      refine ⟨_, _, rfl, rfl, ?_⟩
      refine ⟨_, rfl, fun l_miss_4 h_l_miss_4 => ?_⟩
      have z_l_miss_4 : Ow.Sz 1603 l_miss_4 := by rw [h_l_miss_4]; exact (Ow.Sz.sub z_m_4 (Ow.Sz.mono c3 (by decide : 800 ≤ 1602)))
      refine ⟨_, rfl, ?_⟩
      refine ⟨rfl, ?_⟩
      refine ⟨_, rfl, ?_⟩
      refine Ow.ifeqs (fun h => absurd h (by decide +kernel)) (fun _ => ?_)
      refine ⟨_, rfl, ?_⟩
      refine ⟨rfl, ?_⟩
      refine ⟨_, rfl, ?_⟩
      refine Ow.ifeqs (fun h => absurd h (by decide +kernel)) (fun _ => ?_)
      refine iteF ?_
      refine ⟨_, rfl, ?_⟩
      refine ⟨rfl, ?_⟩
      refine ⟨_, rfl, ?_⟩
      refine Ow.ifeqs (fun _ => ?_) (fun h => absurd rfl h)
      refine ⟨_, rfl, ?_⟩
      refine ⟨_, rfl, ?_⟩
      refine ⟨_, rfl, fun ab h_ab => ?_⟩
      have hm_ab := Ow.abs_ite h_ab
      refine ⟨_, _, rfl, rfl, (.inr (Ow.mulx (Ow.Sz.lit (n := 2) (i := 2) (by decide)) (Ow.Sz.abs z_l_miss_4 h_ab) (by decide))), fun m_5 h_m_5 => ?_⟩
      have z_m_5 : Ow.Sz 1605 m_5 := by rw [h_m_5]; exact (Ow.Sz.mul (Ow.Sz.lit (n := 2) (i := 2) (by decide)) (Ow.Sz.abs z_l_miss_4 h_ab))
      refine ⟨_, rfl, ?_⟩
      refine ⟨_, _, rfl, rfl, ?_⟩
      refine ⟨_, rfl, ?_⟩
      refine Ow.ifd (fun h6 => ?_) (fun h6 => ?_)
      · exact kont
      · refine ⟨_, rfl, ?_⟩
        refine ⟨_, rfl, ?_⟩
        refine ⟨_, rfl, fun ab_2 h_ab_2 => ?_⟩
        have hm_ab_2 := Ow.abs_ite h_ab_2
        refine ⟨_, _, rfl, rfl, (.inr (Ow.mulx (Ow.Sz.lit (n := 2) (i := 2) (by decide)) (Ow.Sz.abs z_l_miss_4 h_ab_2) (by decide))), fun m_6 h_m_6 => ?_⟩
        have z_m_6 : Ow.Sz 1605 m_6 := by rw [h_m_6]; exact (Ow.Sz.mul (Ow.Sz.lit (n := 2) (i := 2) (by decide)) (Ow.Sz.abs z_l_miss_4 h_ab_2))
        refine ⟨_, rfl, ?_⟩
        refine ⟨rfl, ?_⟩
        refine ⟨_, rfl, ?_⟩
        refine Ow.ifeqi (fun h7 => ?_) (fun h7 => ?_)
        · refine ⟨_, rfl, ?_⟩
          refine ⟨_, _, rfl, rfl, (by first | assumption | exact Ow.divw64 (by omega) (by omega) | exact Ow.mul0 ⟨by omega, by omega⟩ | exact Ow.mul1 ⟨by omega, by omega⟩ | exact Ow.shl0 (by omega) (by omega) (by omega) | exact ⟨by omega, by omega⟩ | exact ⟨by omega, by omega, by omega⟩ | omega | (simp only [List.length_append, List.length_cons, List.length_nil]; omega) | (subst_vars; omega)), fun r h_r h0_r h1_r => ?_⟩
          refine ⟨rfl, ?_⟩
          refine Ow.eqeqi (by first | assumption | exact Ow.divw64 (by omega) (by omega) | exact Ow.mul0 ⟨by omega, by omega⟩ | exact Ow.mul1 ⟨by omega, by omega⟩ | exact Ow.shl0 (by omega) (by omega) (by omega) | exact ⟨by omega, by omega⟩ | exact ⟨by omega, by omega, by omega⟩ | omega | (simp only [List.length_append, List.length_cons, List.length_nil]; omega) | (subst_vars; omega)) ?_
          exact kont
        · exact ((by first | assumption | exact Ow.divw64 (by omega) (by omega) | exact Ow.mul0 ⟨by omega, by omega⟩ | exact Ow.mul1 ⟨by omega, by omega⟩ | exact Ow.shl0 (by omega) (by omega) (by omega) | exact ⟨by omega, by omega⟩ | exact ⟨by omega, by omega, by omega⟩ | omega | (simp only [List.length_append, List.length_cons, List.length_nil]; omega) | (subst_vars; omega)) : False).elim
theorem ok_l_roundings (T : Tx K mg) : FnOk P w K mg base CX0 4 T.d_l_roundings.f T.d_l_roundings.fd ["_law_total"] (sp_l_roundings T) := by
  refine T.d_l_roundings.F.ok sc_l_roundings (fun vs H Q E h => ?_) (fun cdv A outer s H vs Q E hr h => ?_)
  · obtain ⟨total, p, q, rfl, _⟩ := h
    rfl
  · obtain ⟨total, p, q, rfl, c0, c1, c2, c3, c4, kont⟩ := h
    refine ⟨_, (pss_cons (ps_set (i := 1) sc_l_roundings.nd rfl (Or.inl rfl) (pe_lst pa_nil))
        (pss_cons (ps_for PassesOwn.never rfl (pi_list (pe_call0 (Ow.ok_all_ways T) (hr.mono (by decide : 1 ≤ 3)) (by rfl) T.d_all_ways.m T.d_all_ways.F.kp T.d_all_ways.b .nil pass0)) (pg_name (i := 2) sc_l_roundings.nd rfl (Or.inl rfl)) (pss_cons (ps_set (i := 3) sc_l_roundings.nd rfl (Or.inl rfl) (Ow.pe_methA (R := fun C sp => (C = T.k_Down.C ∧ sp = sp_Way_rounded T) ∨ (C = T.k_Up.C ∧ sp = sp_Way_rounded T) ∨ (C = T.k_Cut.C ∧ sp = sp_Way_rounded T) ∨ (C = T.k_Near.C ∧ sp = sp_Way_rounded T)) (pe_call (Ow.ok_way_of T) (hr.mono (by decide : 3 ≤ 3)) (by rfl) T.d_way_of.m T.d_way_of.F.kp T.d_way_of.b .nil pass0 (pa_cons (pv 2) pa_nil)) (Ow.mal_or (Ow.mal_one ⟨_, _, _, _, T.k_Down.cl, T.mt_Down_rounded, Ow.ok_Way_rounded T, hr.mono (by decide : 2 ≤ 3), T.d_Way_rounded.b⟩) (Ow.mal_or (Ow.mal_one ⟨_, _, _, _, T.k_Up.cl, T.mt_Up_rounded, Ow.ok_Way_rounded T, hr.mono (by decide : 2 ≤ 3), T.d_Way_rounded.b⟩) (Ow.mal_or (Ow.mal_one ⟨_, _, _, _, T.k_Cut.cl, T.mt_Cut_rounded, Ow.ok_Way_rounded T, hr.mono (by decide : 2 ≤ 3), T.d_Way_rounded.b⟩) (Ow.mal_one ⟨_, _, _, _, T.k_Near.cl, T.mt_Near_rounded, Ow.ok_Way_rounded T, hr.mono (by decide : 2 ≤ 3), T.d_Way_rounded.b⟩)))) pass0 (pa_cons (pe_ix ix_tup (pv 0) pe_int (fun _ _ => rfl)) (pa_cons (pe_ix ix_tup (pv 0) pe_int (fun _ _ => rfl)) pa_nil))))
        (pss_cons (ps_if (PW.pt (pw_or (pt_not (pt_val (pe_call (Ow.ok_l_whole T) (hr.mono (by decide : 1 ≤ 3)) (by rfl) T.d_l_whole.m T.d_l_whole.F.kp T.d_l_whole.b .nil pass0 (pa_cons (pv 3) pa_nil)))) (pw_or1 (pt_not (pt_val (pe_call (Ow.ok_l_right T) (hr.mono (by decide : 1 ≤ 3)) (by rfl) T.d_l_right.m T.d_l_right.F.kp T.d_l_right.b .nil pass0 (pa_cons (pv 2) (pa_cons (pe_ix ix_tup (pv 0) pe_int (fun _ _ => rfl)) (pa_cons (pe_ix ix_tup (pv 0) pe_int (fun _ _ => rfl)) (pa_cons (pv 3) pa_nil)))))))))) (pss_one (ps_ret pe_bl)) pss_nil)
        (pss_one (ps_expr (pe_bm PySem.F.plainAttrs_list PySem.F.slot_list_append PySem.F.type_list_append mt_append (pv 1) (pa_cons (pv 3) pa_nil)))))))
        (pss_cons (ps_if (PW.pt (pw_or (pt_cmpR op_ne (pe_op op_sub (pe_ix ix_list (pv 1) pe_int (fun _ _ => rfl)) (pe_ix ix_list (pv 1) pe_int (fun _ _ => rfl))) (pe_callTy Ow.call_intb (by rfl) T.z_int (by decide +kernel) (pa_cons (pe_cmpR op_gt (pe_ix ix_tup (pv 0) pe_int (fun _ _ => rfl)) pe_int (nomark _)) pa_nil)) (nomark _)) (pw_or1 (pt_cmpR Ow.op_notInI (pe_ix ix_list (pv 1) pe_int (fun _ _ => rfl)) (pe_slice sl_list (pv 1) po_none (po_some pe_int)) rfl)))) (pss_one (ps_ret pe_bl)) pss_nil)
        (pss_one (ps_ret (pe_cmpR op_eq (pe_ix ix_list (pv 1) pe_int (fun _ _ => rfl)) (pe_ix ix_list (pe_lst (pa_cons (pe_ix ix_list (pv 1) pe_int (fun _ _ => rfl)) (pa_cons (pe_ix ix_list (pv 1) pe_int (fun _ _ => rfl)) pa_nil))) (pe_callTy Ow.call_intb (by rfl) T.z_int (by decide +kernel) (pa_cons (pe_cmpR op_ge (pe_ix ix_tup (pv 0) pe_int (fun _ _ => rfl)) pe_int (nomark _)) pa_nil)) (fun _ _ => rfl)) (nomark _))))))), ?_⟩
    refine ⟨by show 0 ≤ sizeLine; decide, fun p_2 h_p_2 => ?_⟩
    refine ⟨rfl, fun p_3 h_p_3 => ?_⟩
    refine ⟨_, rfl, ⟨_, (SqL.of upd_same)⟩, ?_⟩
    refine Ow.un_start (K := K) (a := p_3) (xs := [.str ("down"), .str ("up"), .str ("cut"), .str ("near")]) ?_
    refine ⟨(SqL.of upd_same), ?_⟩
    refine ⟨_, rfl, ?_⟩
    refine ⟨_, Ow.F_Way.Down, rfl, rfl, fun o dx Hn h1 h2 h3 => ?_⟩
    refine ⟨_, _, _, _, _, rfl, .inl ⟨rfl, rfl⟩, h3, rfl, ?_⟩
    refine ⟨_, rfl, ?_⟩
    refine ⟨_, _, _, _, rfl, rfl, (SqT.of (h1 _ _ (Ow.at_new h_p_3 (Ow.at_new h_p_2 c0)))), (by first | rfl | decide), ?_⟩
    refine ⟨_, rfl, ?_⟩
    refine ⟨_, _, _, _, rfl, rfl, (SqT.of (h1 _ _ (Ow.at_new h_p_3 (Ow.at_new h_p_2 c0)))), (by first | rfl | decide), ?_⟩
    refine ⟨_, _, _, Ow.F_Way.Down, _, rfl, h3, (Ow.Sz.mono c2 (by decide : 700 ≤ 800)), (by first | assumption | exact Ow.divw64 (by omega) (by omega) | exact Ow.mul0 ⟨by omega, by omega⟩ | exact Ow.mul1 ⟨by omega, by omega⟩ | exact Ow.shl0 (by omega) (by omega) (by omega) | exact ⟨by omega, by omega⟩ | exact ⟨by omega, by omega, by omega⟩ | omega | (simp only [List.length_append, List.length_cons, List.length_nil]; omega) | (subst_vars; omega)), (Ow.Sz.mono c3 (by decide : 700 ≤ 800)), fun l_found h4 h5 Hn_2 h6 => ?_⟩
    refine ⟨_, rfl, ?_⟩
    refine ⟨_, rfl, ?_⟩
    refine ⟨_, rfl, ?_⟩
    refine iteF ?_
    refine ⟨_, rfl, ?_⟩
    refine ⟨_, rfl, ?_⟩
    refine ⟨_, _, _, _, rfl, rfl, (SqT.of (h6 _ _ (h1 _ _ (Ow.at_new h_p_3 (Ow.at_new h_p_2 c0))))), (by first | rfl | decide), ?_⟩
    refine ⟨_, rfl, ?_⟩
    refine ⟨_, _, _, _, rfl, rfl, (SqT.of (h6 _ _ (h1 _ _ (Ow.at_new h_p_3 (Ow.at_new h_p_2 c0))))), (by first | rfl | decide), ?_⟩
    refine ⟨_, rfl, ?_⟩
    refine ⟨_, _, _, _, Ow.F_Way.Down, rfl, rfl, (by first | with_reducible assumption | exact Ow.divw64 (by omega) (by omega) | exact Ow.mul0 ⟨by omega, by omega⟩ | exact Ow.mul1 ⟨by omega, by omega⟩ | exact Ow.shl0 (by omega) (by omega) (by omega) | exact ⟨by omega, by omega⟩ | exact ⟨by omega, by omega, by omega⟩ | omega | (simp only [List.length_append, List.length_cons, List.length_nil]; omega) | (subst_vars; omega) | assumption | (subst_vars; exact Ow.lies (by omega))), (by first | with_reducible assumption | exact Ow.divw64 (by omega) (by omega) | exact Ow.mul0 ⟨by omega, by omega⟩ | exact Ow.mul1 ⟨by omega, by omega⟩ | exact Ow.shl0 (by omega) (by omega) (by omega) | exact ⟨by omega, by omega⟩ | exact ⟨by omega, by omega, by omega⟩ | omega | (simp only [List.length_append, List.length_cons, List.length_nil]; omega) | (subst_vars; omega) | assumption | (subst_vars; exact Ow.lies (by omega))), (Ow.Sz.mono c2 (by decide : 700 ≤ 800)), (Ow.Sz.mono c3 (by decide : 700 ≤ 800)), h5, ?_⟩
    refine ⟨_, rfl, ?_⟩
    refine iteF ?_
    refine ⟨_, rfl, ?_⟩
    refine ⟨.inl ⟨rfl, _, (SqL.of (h6 _ _ (h1 _ _ (Ow.at_new h_p_3 upd_same))))⟩, ?_⟩
    refine ⟨_, rfl, ?_⟩
    refine ⟨_, _, _, rfl, rfl, (h6 _ _ (h1 _ _ (Ow.at_new h_p_3 upd_same))), (by show 0 < sizeLine; decide), ?_⟩
    refine ⟨(SqL.of (Ow.at_mut (Ow.ne_sym (ne_of_none upd_same h_p_3)) (h6 _ _ (h1 _ _ upd_same)))), ?_⟩
    refine ⟨_, rfl, ?_⟩
    refine ⟨_, Ow.F_Way.Up, rfl, rfl, fun o_2 dx_2 Hn_3 h7 h8 h9 => ?_⟩
    refine ⟨_, _, _, _, _, rfl, .inr (.inl ⟨rfl, rfl⟩), h9, rfl, ?_⟩
    refine ⟨_, rfl, ?_⟩
    refine ⟨_, _, _, _, rfl, rfl, (SqT.of (h7 _ _ (Ow.at_mutT (h6 _ _ (h1 _ _ (Ow.at_new h_p_3 upd_same))) (h6 _ _ (h1 _ _ (Ow.at_new h_p_3 (Ow.at_new h_p_2 c0))))))), (by first | rfl | decide), ?_⟩
    refine ⟨_, rfl, ?_⟩
    refine ⟨_, _, _, _, rfl, rfl, (SqT.of (h7 _ _ (Ow.at_mutT (h6 _ _ (h1 _ _ (Ow.at_new h_p_3 upd_same))) (h6 _ _ (h1 _ _ (Ow.at_new h_p_3 (Ow.at_new h_p_2 c0))))))), (by first | rfl | decide), ?_⟩
    refine ⟨_, _, _, Ow.F_Way.Up, _, rfl, h9, (Ow.Sz.mono c2 (by decide : 700 ≤ 800)), (by first | assumption | exact Ow.divw64 (by omega) (by omega) | exact Ow.mul0 ⟨by omega, by omega⟩ | exact Ow.mul1 ⟨by omega, by omega⟩ | exact Ow.shl0 (by omega) (by omega) (by omega) | exact ⟨by omega, by omega⟩ | exact ⟨by omega, by omega, by omega⟩ | omega | (simp only [List.length_append, List.length_cons, List.length_nil]; omega) | (subst_vars; omega)), (Ow.Sz.mono c3 (by decide : 700 ≤ 800)), fun l_found_2 h10 h11 Hn_4 h12 => ?_⟩
    refine ⟨_, rfl, ?_⟩
    refine ⟨_, rfl, ?_⟩
    refine ⟨_, rfl, ?_⟩
    refine iteF ?_
    refine ⟨_, rfl, ?_⟩
    refine ⟨_, rfl, ?_⟩
    refine ⟨_, _, _, _, rfl, rfl, (SqT.of (h12 _ _ (h7 _ _ (Ow.at_mutT (h6 _ _ (h1 _ _ (Ow.at_new h_p_3 upd_same))) (h6 _ _ (h1 _ _ (Ow.at_new h_p_3 (Ow.at_new h_p_2 c0)))))))), (by first | rfl | decide), ?_⟩
    refine ⟨_, rfl, ?_⟩
    refine ⟨_, _, _, _, rfl, rfl, (SqT.of (h12 _ _ (h7 _ _ (Ow.at_mutT (h6 _ _ (h1 _ _ (Ow.at_new h_p_3 upd_same))) (h6 _ _ (h1 _ _ (Ow.at_new h_p_3 (Ow.at_new h_p_2 c0)))))))), (by first | rfl | decide), ?_⟩
    refine ⟨_, rfl, ?_⟩
    refine ⟨_, _, _, _, Ow.F_Way.Up, rfl, rfl, (by first | with_reducible assumption | exact Ow.divw64 (by omega) (by omega) | exact Ow.mul0 ⟨by omega, by omega⟩ | exact Ow.mul1 ⟨by omega, by omega⟩ | exact Ow.shl0 (by omega) (by omega) (by omega) | exact ⟨by omega, by omega⟩ | exact ⟨by omega, by omega, by omega⟩ | omega | (simp only [List.length_append, List.length_cons, List.length_nil]; omega) | (subst_vars; omega) | assumption | (subst_vars; exact Ow.lies (by omega))), (by first | with_reducible assumption | exact Ow.divw64 (by omega) (by omega) | exact Ow.mul0 ⟨by omega, by omega⟩ | exact Ow.mul1 ⟨by omega, by omega⟩ | exact Ow.shl0 (by omega) (by omega) (by omega) | exact ⟨by omega, by omega⟩ | exact ⟨by omega, by omega, by omega⟩ | omega | (simp only [List.length_append, List.length_cons, List.length_nil]; omega) | (subst_vars; omega) | assumption | (subst_vars; exact Ow.lies (by omega))), (Ow.Sz.mono c2 (by decide : 700 ≤ 800)), (Ow.Sz.mono c3 (by decide : 700 ≤ 800)), h11, ?_⟩
    refine ⟨_, rfl, ?_⟩
    refine iteF ?_
    refine ⟨_, rfl, ?_⟩
    refine ⟨.inl ⟨rfl, _, (SqL.of (h12 _ _ (h7 _ _ upd_same)))⟩, ?_⟩
    refine ⟨_, rfl, ?_⟩
    refine ⟨_, _, _, rfl, rfl, (h12 _ _ (h7 _ _ upd_same)), (by show 1 < sizeLine; decide), ?_⟩
    refine ⟨(SqL.of (Ow.at_mut (Ow.ne_sym (ne_of_none upd_same h_p_3)) (h12 _ _ (h7 _ _ (Ow.at_mut (Ow.ne_sym (ne_of_none upd_same h_p_3)) (h6 _ _ (h1 _ _ upd_same))))))), ?_⟩
    refine ⟨_, rfl, ?_⟩
    refine ⟨_, Ow.F_Way.Cut, rfl, rfl, fun o_3 dx_3 Hn_5 h13 h14 h15 => ?_⟩
    refine ⟨_, _, _, _, _, rfl, .inr (.inr (.inl ⟨rfl, rfl⟩)), h15, rfl, ?_⟩
    refine ⟨_, rfl, ?_⟩
    refine ⟨_, _, _, _, rfl, rfl, (SqT.of (h13 _ _ (Ow.at_mutT (h12 _ _ (h7 _ _ upd_same)) (h12 _ _ (h7 _ _ (Ow.at_mutT (h6 _ _ (h1 _ _ (Ow.at_new h_p_3 upd_same))) (h6 _ _ (h1 _ _ (Ow.at_new h_p_3 (Ow.at_new h_p_2 c0)))))))))), (by first | rfl | decide), ?_⟩
    refine ⟨_, rfl, ?_⟩
    refine ⟨_, _, _, _, rfl, rfl, (SqT.of (h13 _ _ (Ow.at_mutT (h12 _ _ (h7 _ _ upd_same)) (h12 _ _ (h7 _ _ (Ow.at_mutT (h6 _ _ (h1 _ _ (Ow.at_new h_p_3 upd_same))) (h6 _ _ (h1 _ _ (Ow.at_new h_p_3 (Ow.at_new h_p_2 c0)))))))))), (by first | rfl | decide), ?_⟩
    refine ⟨_, _, _, Ow.F_Way.Cut, _, rfl, h15, (Ow.Sz.mono c2 (by decide : 700 ≤ 800)), (by first | assumption | exact Ow.divw64 (by omega) (by omega) | exact Ow.mul0 ⟨by omega, by omega⟩ | exact Ow.mul1 ⟨by omega, by omega⟩ | exact Ow.shl0 (by omega) (by omega) (by omega) | exact ⟨by omega, by omega⟩ | exact ⟨by omega, by omega, by omega⟩ | omega | (simp only [List.length_append, List.length_cons, List.length_nil]; omega) | (subst_vars; omega)), (Ow.Sz.mono c3 (by decide : 700 ≤ 800)), fun l_found_3 h16 h17 Hn_6 h18 => ?_⟩
    refine ⟨_, rfl, ?_⟩
    refine ⟨_, rfl, ?_⟩
    refine ⟨_, rfl, ?_⟩
    refine iteF ?_
    refine ⟨_, rfl, ?_⟩
    refine ⟨_, rfl, ?_⟩
    refine ⟨_, _, _, _, rfl, rfl, (SqT.of (h18 _ _ (h13 _ _ (Ow.at_mutT (h12 _ _ (h7 _ _ upd_same)) (h12 _ _ (h7 _ _ (Ow.at_mutT (h6 _ _ (h1 _ _ (Ow.at_new h_p_3 upd_same))) (h6 _ _ (h1 _ _ (Ow.at_new h_p_3 (Ow.at_new h_p_2 c0))))))))))), (by first | rfl | decide), ?_⟩
    refine ⟨_, rfl, ?_⟩
    refine ⟨_, _, _, _, rfl, rfl, (SqT.of (h18 _ _ (h13 _ _ (Ow.at_mutT (h12 _ _ (h7 _ _ upd_same)) (h12 _ _ (h7 _ _ (Ow.at_mutT (h6 _ _ (h1 _ _ (Ow.at_new h_p_3 upd_same))) (h6 _ _ (h1 _ _ (Ow.at_new h_p_3 (Ow.at_new h_p_2 c0))))))))))), (by first | rfl | decide), ?_⟩
    refine ⟨_, rfl, ?_⟩
    refine ⟨_, _, _, _, Ow.F_Way.Cut, rfl, rfl, (by first | with_reducible assumption | exact Ow.divw64 (by omega) (by omega) | exact Ow.mul0 ⟨by omega, by omega⟩ | exact Ow.mul1 ⟨by omega, by omega⟩ | exact Ow.shl0 (by omega) (by omega) (by omega) | exact ⟨by omega, by omega⟩ | exact ⟨by omega, by omega, by omega⟩ | omega | (simp only [List.length_append, List.length_cons, List.length_nil]; omega) | (subst_vars; omega) | assumption | (subst_vars; exact Ow.lies (by omega))), (by first | with_reducible assumption | exact Ow.divw64 (by omega) (by omega) | exact Ow.mul0 ⟨by omega, by omega⟩ | exact Ow.mul1 ⟨by omega, by omega⟩ | exact Ow.shl0 (by omega) (by omega) (by omega) | exact ⟨by omega, by omega⟩ | exact ⟨by omega, by omega, by omega⟩ | omega | (simp only [List.length_append, List.length_cons, List.length_nil]; omega) | (subst_vars; omega) | assumption | (subst_vars; exact Ow.lies (by omega))), (Ow.Sz.mono c2 (by decide : 700 ≤ 800)), (Ow.Sz.mono c3 (by decide : 700 ≤ 800)), h17, ?_⟩
    refine ⟨_, rfl, ?_⟩
    refine iteF ?_
    refine ⟨_, rfl, ?_⟩
    refine ⟨.inl ⟨rfl, _, (SqL.of (h18 _ _ (h13 _ _ upd_same)))⟩, ?_⟩
    refine ⟨_, rfl, ?_⟩
    refine ⟨_, _, _, rfl, rfl, (h18 _ _ (h13 _ _ upd_same)), (by show 2 < sizeLine; decide), ?_⟩
    refine ⟨(SqL.of (Ow.at_mut (Ow.ne_sym (ne_of_none upd_same h_p_3)) (h18 _ _ (h13 _ _ (Ow.at_mut (Ow.ne_sym (ne_of_none upd_same h_p_3)) (h12 _ _ (h7 _ _ (Ow.at_mut (Ow.ne_sym (ne_of_none upd_same h_p_3)) (h6 _ _ (h1 _ _ upd_same)))))))))), ?_⟩
    refine ⟨_, rfl, ?_⟩
    refine ⟨_, Ow.F_Way.Near, rfl, rfl, fun o_4 dx_4 Hn_7 h19 h20 h21 => ?_⟩
    refine ⟨_, _, _, _, _, rfl, .inr (.inr (.inr (⟨rfl, rfl⟩))), h21, rfl, ?_⟩
    refine ⟨_, rfl, ?_⟩
    refine ⟨_, _, _, _, rfl, rfl, (SqT.of (h19 _ _ (Ow.at_mutT (h18 _ _ (h13 _ _ upd_same)) (h18 _ _ (h13 _ _ (Ow.at_mutT (h12 _ _ (h7 _ _ upd_same)) (h12 _ _ (h7 _ _ (Ow.at_mutT (h6 _ _ (h1 _ _ (Ow.at_new h_p_3 upd_same))) (h6 _ _ (h1 _ _ (Ow.at_new h_p_3 (Ow.at_new h_p_2 c0))))))))))))), (by first | rfl | decide), ?_⟩
    refine ⟨_, rfl, ?_⟩
    refine ⟨_, _, _, _, rfl, rfl, (SqT.of (h19 _ _ (Ow.at_mutT (h18 _ _ (h13 _ _ upd_same)) (h18 _ _ (h13 _ _ (Ow.at_mutT (h12 _ _ (h7 _ _ upd_same)) (h12 _ _ (h7 _ _ (Ow.at_mutT (h6 _ _ (h1 _ _ (Ow.at_new h_p_3 upd_same))) (h6 _ _ (h1 _ _ (Ow.at_new h_p_3 (Ow.at_new h_p_2 c0))))))))))))), (by first | rfl | decide), ?_⟩
    refine ⟨_, _, _, Ow.F_Way.Near, _, rfl, h21, (Ow.Sz.mono c2 (by decide : 700 ≤ 800)), (by first | assumption | exact Ow.divw64 (by omega) (by omega) | exact Ow.mul0 ⟨by omega, by omega⟩ | exact Ow.mul1 ⟨by omega, by omega⟩ | exact Ow.shl0 (by omega) (by omega) (by omega) | exact ⟨by omega, by omega⟩ | exact ⟨by omega, by omega, by omega⟩ | omega | (simp only [List.length_append, List.length_cons, List.length_nil]; omega) | (subst_vars; omega)), (Ow.Sz.mono c3 (by decide : 700 ≤ 800)), fun l_found_4 h22 h23 Hn_8 h24 => ?_⟩
    refine ⟨_, rfl, ?_⟩
    refine ⟨_, rfl, ?_⟩
    refine ⟨_, rfl, ?_⟩
    refine iteF ?_
    refine ⟨_, rfl, ?_⟩
    refine ⟨_, rfl, ?_⟩
    refine ⟨_, _, _, _, rfl, rfl, (SqT.of (h24 _ _ (h19 _ _ (Ow.at_mutT (h18 _ _ (h13 _ _ upd_same)) (h18 _ _ (h13 _ _ (Ow.at_mutT (h12 _ _ (h7 _ _ upd_same)) (h12 _ _ (h7 _ _ (Ow.at_mutT (h6 _ _ (h1 _ _ (Ow.at_new h_p_3 upd_same))) (h6 _ _ (h1 _ _ (Ow.at_new h_p_3 (Ow.at_new h_p_2 c0)))))))))))))), (by first | rfl | decide), ?_⟩
    refine ⟨_, rfl, ?_⟩
    refine ⟨_, _, _, _, rfl, rfl, (SqT.of (h24 _ _ (h19 _ _ (Ow.at_mutT (h18 _ _ (h13 _ _ upd_same)) (h18 _ _ (h13 _ _ (Ow.at_mutT (h12 _ _ (h7 _ _ upd_same)) (h12 _ _ (h7 _ _ (Ow.at_mutT (h6 _ _ (h1 _ _ (Ow.at_new h_p_3 upd_same))) (h6 _ _ (h1 _ _ (Ow.at_new h_p_3 (Ow.at_new h_p_2 c0)))))))))))))), (by first | rfl | decide), ?_⟩
    refine ⟨_, rfl, ?_⟩
    refine ⟨_, _, _, _, Ow.F_Way.Near, rfl, rfl, (by first | with_reducible assumption | exact Ow.divw64 (by omega) (by omega) | exact Ow.mul0 ⟨by omega, by omega⟩ | exact Ow.mul1 ⟨by omega, by omega⟩ | exact Ow.shl0 (by omega) (by omega) (by omega) | exact ⟨by omega, by omega⟩ | exact ⟨by omega, by omega, by omega⟩ | omega | (simp only [List.length_append, List.length_cons, List.length_nil]; omega) | (subst_vars; omega) | assumption | (subst_vars; exact Ow.lies (by omega))), (by first | with_reducible assumption | exact Ow.divw64 (by omega) (by omega) | exact Ow.mul0 ⟨by omega, by omega⟩ | exact Ow.mul1 ⟨by omega, by omega⟩ | exact Ow.shl0 (by omega) (by omega) (by omega) | exact ⟨by omega, by omega⟩ | exact ⟨by omega, by omega, by omega⟩ | omega | (simp only [List.length_append, List.length_cons, List.length_nil]; omega) | (subst_vars; omega) | assumption | (subst_vars; exact Ow.lies (by omega))), (Ow.Sz.mono c2 (by decide : 700 ≤ 800)), (Ow.Sz.mono c3 (by decide : 700 ≤ 800)), h23, ?_⟩
    refine ⟨_, rfl, ?_⟩
    refine iteF ?_
    refine ⟨_, rfl, ?_⟩
    refine ⟨.inl ⟨rfl, _, (SqL.of (h24 _ _ (h19 _ _ upd_same)))⟩, ?_⟩
    refine ⟨_, rfl, ?_⟩
    refine ⟨_, _, _, rfl, rfl, (h24 _ _ (h19 _ _ upd_same)), (by show 3 < sizeLine; decide), ?_⟩
    refine ⟨(SqL.of (Ow.at_mut (Ow.ne_sym (ne_of_none upd_same h_p_3)) (h24 _ _ (h19 _ _ (Ow.at_mut (Ow.ne_sym (ne_of_none upd_same h_p_3)) (h18 _ _ (h13 _ _ (Ow.at_mut (Ow.ne_sym (ne_of_none upd_same h_p_3)) (h12 _ _ (h7 _ _ (Ow.at_mut (Ow.ne_sym (ne_of_none upd_same h_p_3)) (h6 _ _ (h1 _ _ upd_same))))))))))))), ?_⟩
    refine ⟨_, rfl, ?_⟩
    refine ⟨_, _, _, _, rfl, rfl, (SqL.of upd_same), (by first | rfl | decide), ?_⟩
    refine ⟨_, rfl, ?_⟩
    refine ⟨_, _, _, _, rfl, rfl, (SqL.of upd_same), (by first | rfl | decide), ?_⟩
    refine ⟨_, _, rfl, rfl, ?_⟩
    refine ⟨_, rfl, ?_⟩
    refine ⟨_, _, _, _, rfl, rfl, (SqT.of (Ow.at_mutT (h24 _ _ (h19 _ _ upd_same)) (h24 _ _ (h19 _ _ (Ow.at_mutT (h18 _ _ (h13 _ _ upd_same)) (h18 _ _ (h13 _ _ (Ow.at_mutT (h12 _ _ (h7 _ _ upd_same)) (h12 _ _ (h7 _ _ (Ow.at_mutT (h6 _ _ (h1 _ _ (Ow.at_new h_p_3 upd_same))) (h6 _ _ (h1 _ _ (Ow.at_new h_p_3 (Ow.at_new h_p_2 c0))))))))))))))), (by first | rfl | decide), ?_⟩
    refine ⟨_, _, rfl, rfl, ?_⟩
    refine ⟨_, rfl, fun n h_n => ?_⟩
    simp only [decide_eq_true_eq, decide_eq_false_iff_not] at h_n
    refine ⟨rfl, ?_⟩
    refine ⟨_, rfl, ?_⟩
    refine Ow.ifnei (fun h25 => ?_) (fun h25 => ?_)
    · refine iteT ?_
      exact ((by first | omega | (have z := Ow.up_down c1 c4 (by assumption) (by assumption); omega) | (apply h25; rcases Ow.near_of2 c1 c4 (by assumption) (by assumption) (by assumption) with z | z <;> rw [z] <;> simp)) : False).elim
    · refine ⟨_, rfl, ?_⟩
      refine ⟨_, _, _, _, rfl, rfl, (SqL.of upd_same), (by first | rfl | decide), ?_⟩
      refine ⟨_, rfl, ?_⟩
      refine ⟨_, rfl, ?_⟩
      refine ⟨_, _, rfl, (SqL.of upd_same), fun p_4 h_p_4 => ?_⟩
      refine ⟨_, _, [l_found, l_found_2], rfl, rfl, (SqL.of (Ow.sl_lit (ys := [V.int (l_found), V.int (l_found_2)]) (by first | rfl | decide))), ?_⟩
      refine ⟨_, rfl, ?_⟩
      refine Ow.ifnd (fun h26 => ?_) (fun h26 => ?_)
      · exact ((by first | omega | (have z := Ow.up_down c1 c4 (by assumption) (by assumption); omega) | (apply h26; rcases Ow.near_of2 c1 c4 (by assumption) (by assumption) (by assumption) with z | z <;> rw [z] <;> simp)) : False).elim
      · refine ⟨_, rfl, ?_⟩
        refine ⟨_, _, _, _, rfl, rfl, (SqL.of (Ow.at_new h_p_4 upd_same)), (by first | rfl | decide), ?_⟩
        refine ⟨_, rfl, ?_⟩
        refine ⟨_, _, _, _, rfl, rfl, (SqL.of (Ow.at_new h_p_4 upd_same)), (by first | rfl | decide), ?_⟩
        refine ⟨_, rfl, ?_⟩
        refine ⟨_, _, _, _, rfl, rfl, (SqL.of (Ow.at_new h_p_4 upd_same)), (by first | rfl | decide), ?_⟩
        refine ⟨by show 2 ≤ sizeLine; decide, fun p_5 h_p_5 => ?_⟩
        refine ⟨_, rfl, ?_⟩
        refine ⟨_, _, _, _, rfl, rfl, (SqT.of (Ow.at_new h_p_5 (Ow.at_new h_p_4 (Ow.at_mutT (h24 _ _ (h19 _ _ upd_same)) (h24 _ _ (h19 _ _ (Ow.at_mutT (h18 _ _ (h13 _ _ upd_same)) (h18 _ _ (h13 _ _ (Ow.at_mutT (h12 _ _ (h7 _ _ upd_same)) (h12 _ _ (h7 _ _ (Ow.at_mutT (h6 _ _ (h1 _ _ (Ow.at_new h_p_3 upd_same))) (h6 _ _ (h1 _ _ (Ow.at_new h_p_3 (Ow.at_new h_p_2 c0))))))))))))))))), (by first | rfl | decide), ?_⟩
        refine ⟨_, _, rfl, rfl, ?_⟩
        refine ⟨_, rfl, fun n_2 h_n_2 => ?_⟩
        simp only [decide_eq_true_eq, decide_eq_false_iff_not] at h_n_2
        refine Ow.ixi2 (SqL.of upd_same) (by first | assumption | exact Ow.divw64 (by omega) (by omega) | exact Ow.mul0 ⟨by omega, by omega⟩ | exact Ow.mul1 ⟨by omega, by omega⟩ | exact Ow.shl0 (by omega) (by omega) (by omega) | exact ⟨by omega, by omega⟩ | exact ⟨by omega, by omega, by omega⟩ | omega | (simp only [List.length_append, List.length_cons, List.length_nil]; omega) | (subst_vars; omega)) (fun it h_it => ?_)
        have z_it : Ow.Sz 802 it := by rcases h_it with ⟨_, rfl⟩ | ⟨_, rfl⟩ <;> first | exact h11 | exact h5
        refine ⟨rfl, ?_⟩
        refine Ow.eqeqi (by (have z := Ow.cut_of c1 (by assumption) (by assumption) (by assumption); omega)) ?_
        exact kont _ (((Ow.same_mut (((Ow.same_mut (((Ow.same_mut (((Ow.same_mut ((((Ow.same_new h_p_2).trans (Ow.same_new h_p_3)).trans h1).trans h6) h_p_2).trans h7).trans h12) h_p_2).trans h13).trans h18) h_p_2).trans h19).trans h24) h_p_2).trans (Ow.same_new h_p_4)).trans (Ow.same_new h_p_5))
theorem ok_law (T : Tx K mg) : FnOk P w K mg base CX0 12 T.d_law.f T.d_law.fd ["_law_script"] (sp_law K) := by
  refine T.d_law.F.ok sc_law (fun vs H Q E h => ?_) (fun cdv A outer s H vs Q E hr h => ?_)
  · obtain ⟨script, ns, rfl, _⟩ := h
    rfl
  · obtain ⟨script, ns, rfl, c0, c1, kont⟩ := h
    refine ⟨_, (pss_cons (ps_set (i := 1) sc_law.nd rfl (Or.inl rfl) (pe_call (Ow.ok_l_drawn T) (hr.mono (by decide : 2 ≤ 11)) (by rfl) T.d_l_drawn.m T.d_l_drawn.F.kp T.d_l_drawn.b .nil pass0 (pa_cons (pv 0) pa_nil)))
        (pss_cons (ps_set (i := 2) sc_law.nd rfl (Or.inl rfl) (pe_tup (pa_cons pe_int (pa_cons pe_int pa_nil))))
        (pss_cons (ps_for PassesOwn.never rfl (pi_list (pv 1)) (pg_name (i := 3) sc_law.nd rfl (Or.inl rfl)) (pss_one (ps_set (i := 2) sc_law.nd rfl (Or.inl rfl) (pe_call (Ow.ok_plus T) (hr.mono (by decide : 3 ≤ 11)) (by rfl) T.d_plus.m T.d_plus.F.kp T.d_plus.b .nil pass0 (pa_cons (pv 2) (pa_cons (pv 3) pa_nil))))))
        (pss_cons (ps_set (i := 4) sc_law.nd rfl (Or.inl rfl) (pe_tup (pa_cons pe_int (pa_cons pe_int pa_nil))))
        (pss_cons (ps_for PassesOwn.never rfl (pi_list (pe_revL (pv 1))) (pg_name (i := 3) sc_law.nd rfl (Or.inl rfl)) (pss_one (ps_set (i := 4) sc_law.nd rfl (Or.inl rfl) (pe_call (Ow.ok_plus T) (hr.mono (by decide : 3 ≤ 11)) (by rfl) T.d_plus.m T.d_plus.F.kp T.d_plus.b .nil pass0 (pa_cons (pv 3) (pa_cons (pv 4) pa_nil))))))
        (pss_cons (ps_asg (pe_call (Ow.ok_l_summed T) (hr.mono (by decide : 1 ≤ 11)) (by rfl) T.d_l_summed.m T.d_l_summed.F.kp T.d_l_summed.b .nil pass0 (pa_cons (pv 1) pa_nil)) (pg_unl rfl (pgs_cons (pg_name (i := 5) sc_law.nd rfl (Or.inl rfl)) (pgs_cons (pg_name (i := 6) sc_law.nd rfl (Or.inl rfl)) pgs_nil))))
        (pss_cons (ps_if (PW.pt (pw_or (pt_not (pt_val (pe_call (Ow.ok_l_is_fraction T) (hr.mono (by decide : 2 ≤ 11)) (by rfl) T.d_l_is_fraction.m T.d_l_is_fraction.F.kp T.d_l_is_fraction.b .nil pass0 (pa_cons (pv 2) pa_nil)))) (pw_or (pt_cmpR op_ne (pe_op Ow.op_mulN (pe_ix ix_tup (pv 2) pe_int (fun _ _ => rfl)) (pv 6)) (pe_op Ow.op_mulN (pv 5) (pe_ix ix_tup (pv 2) pe_int (fun _ _ => rfl))) (nomark _)) (pw_or (pt_cmpR (op_neD hr.units) (pv 4) (pv 2) (nomark _)) (pw_or1 (pt_cmpR (op_neD hr.units) (pe_call (Ow.ok_l_halves T 7) (hr.mono (by decide : 11 ≤ 11)) (by rfl) T.d_l_halves.m T.d_l_halves.F.kp T.d_l_halves.b .nil pass0 (pa_cons (pv 1) pa_nil)) (pv 2) (nomark _))))))) (pss_one (ps_ret pe_bl)) pss_nil)
        (pss_cons (ps_if (PW.pt (pw_or (pt_cmpR (op_neD hr.units) (pe_call (Ow.ok_l_left_over T) (hr.mono (by decide : 5 ≤ 11)) (by rfl) T.d_l_left_over.m T.d_l_left_over.F.kp T.d_l_left_over.b .nil pass0 (pa_cons (pv 1) (pa_cons (pv 2) pa_nil))) (pe_tup (pa_cons pe_int (pa_cons pe_int pa_nil))) (nomark _)) (pw_or1 (pt_not (pt_val (pe_call (Ow.ok_l_roundings T) (hr.mono (by decide : 4 ≤ 11)) (by rfl) T.d_l_roundings.m T.d_l_roundings.F.kp T.d_l_roundings.b .nil pass0 (pa_cons (pv 2) pa_nil))))))) (pss_one (ps_ret pe_bl)) pss_nil)
        (pss_cons (ps_set (i := 7) sc_law.nd rfl (Or.inl rfl) (pe_op Ow.op_modN (pe_call (Ow.ok_l_cell T) (hr.mono (by decide : 1 ≤ 11)) (by rfl) T.d_l_cell.m T.d_l_cell.F.kp T.d_l_cell.b .nil pass0 (pa_cons (pv 0) (pa_cons pe_int pa_nil))) pe_int))
        (pss_cons (ps_set (i := 8) sc_law.nd rfl (Or.inl rfl) (Ow.pe_methA (R := fun C sp => (C = T.k_Down.C ∧ sp = sp_Way_rounded T) ∨ (C = T.k_Up.C ∧ sp = sp_Way_rounded T) ∨ (C = T.k_Cut.C ∧ sp = sp_Way_rounded T) ∨ (C = T.k_Near.C ∧ sp = sp_Way_rounded T)) (pe_call (Ow.ok_way_of T) (hr.mono (by decide : 3 ≤ 11)) (by rfl) T.d_way_of.m T.d_way_of.F.kp T.d_way_of.b .nil pass0 (pa_cons pe_str pa_nil)) (Ow.mal_or (Ow.mal_one ⟨_, _, _, _, T.k_Down.cl, T.mt_Down_rounded, Ow.ok_Way_rounded T, hr.mono (by decide : 2 ≤ 11), T.d_Way_rounded.b⟩) (Ow.mal_or (Ow.mal_one ⟨_, _, _, _, T.k_Up.cl, T.mt_Up_rounded, Ow.ok_Way_rounded T, hr.mono (by decide : 2 ≤ 11), T.d_Way_rounded.b⟩) (Ow.mal_or (Ow.mal_one ⟨_, _, _, _, T.k_Cut.cl, T.mt_Cut_rounded, Ow.ok_Way_rounded T, hr.mono (by decide : 2 ≤ 11), T.d_Way_rounded.b⟩) (Ow.mal_one ⟨_, _, _, _, T.k_Near.cl, T.mt_Near_rounded, Ow.ok_Way_rounded T, hr.mono (by decide : 2 ≤ 11), T.d_Way_rounded.b⟩)))) pass0 (pa_cons (pe_op Ow.op_shlN (pe_ix ix_tup (pv 2) pe_int (fun _ _ => rfl)) (pv 7)) (pa_cons (pe_ix ix_tup (pv 2) pe_int (fun _ _ => rfl)) pa_nil))))
        (pss_cons (ps_set (i := 9) sc_law.nd rfl (Or.inl rfl) (pe_call (Ow.ok_raised T) (hr.mono (by decide : 4 ≤ 11)) (by rfl) T.d_raised.m T.d_raised.F.kp T.d_raised.b .nil pass0 (pa_cons (pv 2) (pa_cons (pv 7) pa_nil))))
        (pss_cons (ps_if (PW.pt (pw_or (pt_cmpR (op_neD hr.units) (pv 9) (pe_call (Ow.ok_by_twos T) (hr.mono (by decide : 3 ≤ 11)) (by rfl) T.d_by_twos.m T.d_by_twos.F.kp T.d_by_twos.b .nil pass0 (pa_cons (pv 8) (pa_cons (pv 7) pa_nil))) (nomark _)) (pw_or (pt_val (pe_call (Ow.ok_less T) (hr.mono (by decide : 1 ≤ 11)) (by rfl) T.d_less.m T.d_less.F.kp T.d_less.b .nil pass0 (pa_cons (pv 9) (pa_cons (pv 2) pa_nil)))) (pw_or1 (pt_not (pt_val (pe_call (Ow.ok_less T) (hr.mono (by decide : 1 ≤ 11)) (by rfl) T.d_less.m T.d_less.F.kp T.d_less.b .nil pass0 (pa_cons (pe_call (Ow.ok_minus T) (hr.mono (by decide : 4 ≤ 11)) (by rfl) T.d_minus.m T.d_minus.F.kp T.d_minus.b .nil pass0 (pa_cons (pv 9) (pa_cons (pv 2) pa_nil))) (pa_cons (pe_call (Ow.ok_by_twos T) (hr.mono (by decide : 3 ≤ 11)) (by rfl) T.d_by_twos.m T.d_by_twos.F.kp T.d_by_twos.b .nil pass0 (pa_cons pe_int (pa_cons (pv 7) pa_nil))) pa_nil))))))))) (pss_one (ps_ret pe_bl)) pss_nil)
        (pss_one (ps_ret (pe_cmpR (op_eqD hr.units) (pe_call (Ow.ok_times T) (hr.mono (by decide : 3 ≤ 11)) (by rfl) T.d_times.m T.d_times.F.kp T.d_times.b .nil pass0 (pa_cons (pv 9) (pa_cons (pe_tup (pa_cons (pe_op Ow.op_shl1 pe_int (pv 7)) (pa_cons pe_int pa_nil))) pa_nil))) (pe_tup (pa_cons (pv 8) (pa_cons pe_int pa_nil))) (nomark _)))))))))))))))), ?_⟩
    refine ⟨_, rfl, ?_⟩
    refine ⟨_, _, rfl, c0, fun rs h1 h2 p Hn vs h3 h4 h5 h6 => ?_⟩
    refine Ow.gnmS (σ' := [_, _, _, _, _, _, _, _, _, _]) rfl ?_
    refine ⟨by show 2 ≤ sizeLine; decide, fun p_2 h_p_2 => ?_⟩
    refine Ow.gnmS (σ' := [_, _, _, _, _, _, _, _, _, _]) rfl ?_
    refine ⟨_, rfl, ?_⟩
    refine ⟨_, rfl, ⟨_, (SqL.of (Ow.at_new h_p_2 h5))⟩, ?_⟩
    refine for_list (K := K) (a := p) (xs := vs) (fun ixv σ2 H2 => ∃ (f : Addr) (fp : Int) (fq : Int) (v_3 : Option V) (v_4 : Option V) (v_5 : Option V) (v_6 : Option V) (v_7 : Option V) (v_8 : Option V) (v_9 : Option V), σ2 = [some (.ref script), some (.ref p), some (.ref f), v_3, v_4, v_5, v_6, v_7, v_8, v_9] ∧ Same H H2 ∧ H2 f = some (.tup [.int (fp), .int (fq)]) ∧ H2 p = some (.lst vs) ∧ Ow.Rws Ow.g2 H2 vs rs ∧ (Ow.Fr (rs.take ixv) fp fq) ∧ (Ow.Sz 700 fp) ∧ (Ow.Sz 700 fq) ∧ True) ⟨p_2, _, _, _, _, _, _, _, _, _, rfl, (h3.trans (Ow.same_new h_p_2)), upd_same, (Ow.at_new h_p_2 h5), (Ow.Rws.new h_p_2 h6), (by first | exact Ow.Fr.nil | exact Ow.Sz.lit (by decide)), (by first | exact Ow.Fr.nil | exact Ow.Sz.lit (by decide)), (by first | exact Ow.Fr.nil | exact Ow.Sz.lit (by decide)), trivial⟩ (fun i σ2 H2 _ hz => ?_) ?_ ?_
    · obtain ⟨f, fp, fq, _, _, _, _, _, _, _, rfl, h7, h8, h9, h10, h11, h12, h13, _⟩ := hz
      exact (SqL.of h9)
    · rintro i xit _ Hn_2 h14 ⟨f_2, fp_2, fq_2, _, _, _, _, _, _, _, rfl, h15, h16, h17, h18, h19, h20, h21, _⟩
      obtain ⟨tp, r, rfl, h_tp, h_r⟩ := Ow.Rws.get h18 h14
      have z0_r : Ow.Sz 32 r.1 := Ow.r1_sz (Ow.FrOk.get (by first | assumption | exact Ow.FrOk.rev (by assumption)) h_r)
      have z1_r : Ow.Sz 11 r.2 := Ow.r2_sz (Ow.FrOk.get (by first | assumption | exact Ow.FrOk.rev (by assumption)) h_r)
      have hit := (Ow.FrOk.get (by first | assumption | exact Ow.FrOk.rev (by assumption)) h_r)
      have hf0 := h19
      have hq0 := hf0.2.1
      have hlt := (List.getElem?_eq_some_iff.mp h_r).1
      refine ⟨_, rfl, ?_⟩
      refine ⟨_, rfl, ?_⟩
      refine ⟨_, _, _, _, _, _, rfl, h16, (by first | assumption | exact Ow.divw64 (by omega) (by omega) | exact Ow.mul0 ⟨by omega, by omega⟩ | exact Ow.mul1 ⟨by omega, by omega⟩ | exact Ow.shl0 (by omega) (by omega) (by omega) | exact ⟨by omega, by omega⟩ | exact ⟨by omega, by omega, by omega⟩ | omega | (simp only [List.length_append, List.length_cons, List.length_nil]; omega) | (subst_vars; omega)), (Ow.Sz.mono h20 (by decide : 700 ≤ 2410)), (Ow.Sz.mono h21 (by decide : 700 ≤ 2410)), h_tp, (by first | assumption | exact Ow.divw64 (by omega) (by omega) | exact Ow.mul0 ⟨by omega, by omega⟩ | exact Ow.mul1 ⟨by omega, by omega⟩ | exact Ow.shl0 (by omega) (by omega) (by omega) | exact ⟨by omega, by omega⟩ | exact ⟨by omega, by omega, by omega⟩ | omega | (simp only [List.length_append, List.length_cons, List.length_nil]; omega) | (subst_vars; omega)), (Ow.Sz.mono z0_r (by decide : 32 ≤ 2410)), (Ow.Sz.mono z1_r (by decide : 11 ≤ 2410)), fun p_3 q h22 h23 h24 h25 h26 p_4 Hn_3 h27 h28 h29 => ?_⟩
      exact ⟨p_4, _, _, _, _, _, _, _, _, _, rfl, (h15.trans h27), h29, (h27 _ _ h17), (Ow.Rws.same h27 h18), (by first | first | exact Ow.Fr.turn h_r ⟨hit.2.2.1, hit.2.2.2.2⟩ hf0 (by assumption) (by assumption) (by assumption) | exact Ow.Fr.back h_r ⟨hit.2.2.1, hit.2.2.2.2⟩ hf0 (by assumption) (by assumption) (by assumption) | exact Ow.Fr.back h_r_2 ⟨hit.2.2.1, hit.2.2.2.2⟩ hf0 (by assumption) (by assumption) (by assumption) | exact (Ow.Fr.sz2 (by first | exact Ow.Fr.turn h_r ⟨hit.2.2.1, hit.2.2.2.2⟩ hf0 (by assumption) (by assumption) (by assumption) | exact Ow.Fr.back h_r ⟨hit.2.2.1, hit.2.2.2.2⟩ hf0 (by assumption) (by assumption) (by assumption) | exact Ow.Fr.back h_r_2 ⟨hit.2.2.1, hit.2.2.2.2⟩ hf0 (by assumption) (by assumption) (by assumption)) (Ow.FrOk.take (by first | assumption | exact Ow.FrOk.rev (by assumption)) _) (by rw [List.length_take]; first | omega | (rw [List.length_reverse]; omega))).1 | exact (Ow.Fr.sz2 (by first | exact Ow.Fr.turn h_r ⟨hit.2.2.1, hit.2.2.2.2⟩ hf0 (by assumption) (by assumption) (by assumption) | exact Ow.Fr.back h_r ⟨hit.2.2.1, hit.2.2.2.2⟩ hf0 (by assumption) (by assumption) (by assumption) | exact Ow.Fr.back h_r_2 ⟨hit.2.2.1, hit.2.2.2.2⟩ hf0 (by assumption) (by assumption) (by assumption)) (Ow.FrOk.take (by first | assumption | exact Ow.FrOk.rev (by assumption)) _) (by rw [List.length_take]; first | omega | (rw [List.length_reverse]; omega))).2), (by first | first | exact Ow.Fr.turn h_r ⟨hit.2.2.1, hit.2.2.2.2⟩ hf0 (by assumption) (by assumption) (by assumption) | exact Ow.Fr.back h_r ⟨hit.2.2.1, hit.2.2.2.2⟩ hf0 (by assumption) (by assumption) (by assumption) | exact Ow.Fr.back h_r_2 ⟨hit.2.2.1, hit.2.2.2.2⟩ hf0 (by assumption) (by assumption) (by assumption) | exact (Ow.Fr.sz2 (by first | exact Ow.Fr.turn h_r ⟨hit.2.2.1, hit.2.2.2.2⟩ hf0 (by assumption) (by assumption) (by assumption) | exact Ow.Fr.back h_r ⟨hit.2.2.1, hit.2.2.2.2⟩ hf0 (by assumption) (by assumption) (by assumption) | exact Ow.Fr.back h_r_2 ⟨hit.2.2.1, hit.2.2.2.2⟩ hf0 (by assumption) (by assumption) (by assumption)) (Ow.FrOk.take (by first | assumption | exact Ow.FrOk.rev (by assumption)) _) (by rw [List.length_take]; first | omega | (rw [List.length_reverse]; omega))).1 | exact (Ow.Fr.sz2 (by first | exact Ow.Fr.turn h_r ⟨hit.2.2.1, hit.2.2.2.2⟩ hf0 (by assumption) (by assumption) (by assumption) | exact Ow.Fr.back h_r ⟨hit.2.2.1, hit.2.2.2.2⟩ hf0 (by assumption) (by assumption) (by assumption) | exact Ow.Fr.back h_r_2 ⟨hit.2.2.1, hit.2.2.2.2⟩ hf0 (by assumption) (by assumption) (by assumption)) (Ow.FrOk.take (by first | assumption | exact Ow.FrOk.rev (by assumption)) _) (by rw [List.length_take]; first | omega | (rw [List.length_reverse]; omega))).2), (by first | first | exact Ow.Fr.turn h_r ⟨hit.2.2.1, hit.2.2.2.2⟩ hf0 (by assumption) (by assumption) (by assumption) | exact Ow.Fr.back h_r ⟨hit.2.2.1, hit.2.2.2.2⟩ hf0 (by assumption) (by assumption) (by assumption) | exact Ow.Fr.back h_r_2 ⟨hit.2.2.1, hit.2.2.2.2⟩ hf0 (by assumption) (by assumption) (by assumption) | exact (Ow.Fr.sz2 (by first | exact Ow.Fr.turn h_r ⟨hit.2.2.1, hit.2.2.2.2⟩ hf0 (by assumption) (by assumption) (by assumption) | exact Ow.Fr.back h_r ⟨hit.2.2.1, hit.2.2.2.2⟩ hf0 (by assumption) (by assumption) (by assumption) | exact Ow.Fr.back h_r_2 ⟨hit.2.2.1, hit.2.2.2.2⟩ hf0 (by assumption) (by assumption) (by assumption)) (Ow.FrOk.take (by first | assumption | exact Ow.FrOk.rev (by assumption)) _) (by rw [List.length_take]; first | omega | (rw [List.length_reverse]; omega))).1 | exact (Ow.Fr.sz2 (by first | exact Ow.Fr.turn h_r ⟨hit.2.2.1, hit.2.2.2.2⟩ hf0 (by assumption) (by assumption) (by assumption) | exact Ow.Fr.back h_r ⟨hit.2.2.1, hit.2.2.2.2⟩ hf0 (by assumption) (by assumption) (by assumption) | exact Ow.Fr.back h_r_2 ⟨hit.2.2.1, hit.2.2.2.2⟩ hf0 (by assumption) (by assumption) (by assumption)) (Ow.FrOk.take (by first | assumption | exact Ow.FrOk.rev (by assumption)) _) (by rw [List.length_take]; first | omega | (rw [List.length_reverse]; omega))).2), trivial⟩
    · rintro _ Hn_4 ⟨f_3, fp_3, fq_3, _, _, _, _, _, _, _, rfl, h30, h31, h32, h33, h34, h35, h36, _⟩
      have hlen := (h33).len
      have hall := h34
      rw [hlen, List.take_length] at hall
      have hfo := hall
      have hfo1 := hall.1
      have hfo2 := hall.2.1
      refine ⟨by show 2 ≤ sizeLine; decide, fun p_5 h_p_5 => ?_⟩
      refine Ow.gnmS (σ' := [_, _, _, _, _, _, _, _, _, _]) rfl ?_
      refine ⟨_, rfl, ?_⟩
      refine ⟨_, _, rfl, (SqL.of (Ow.at_new h_p_5 h32)), fun p_6 h_p_6 => ?_⟩
      refine ⟨_, rfl, ⟨_, (SqL.of upd_same)⟩, ?_⟩
      refine for_list (K := K) (a := p_6) (xs := vs.reverse) (fun ixv σ2 H2 => ∃ (f : Addr) (fp : Int) (fq : Int) (v_3 : Option V) (v_5 : Option V) (v_6 : Option V) (v_7 : Option V) (v_8 : Option V) (v_9 : Option V), σ2 = [some (.ref script), some (.ref p), some (.ref f_3), v_3, some (.ref f), v_5, v_6, v_7, v_8, v_9] ∧ Same H H2 ∧ H2 f = some (.tup [.int (fp), .int (fq)]) ∧ H2 p = some (.lst vs) ∧ Ow.Rws Ow.g2 H2 vs rs ∧ H2 f_3 = some (.tup [.int (fp_3), .int (fq_3)]) ∧ H2 p_6 = some (.lst vs.reverse) ∧ Ow.Rws Ow.g2 H2 vs.reverse rs.reverse ∧ (Ow.Fr (rs.reverse.take ixv) fp fq) ∧ (Ow.Sz 700 fp) ∧ (Ow.Sz 700 fq) ∧ True) ⟨p_5, _, _, _, _, _, _, _, _, rfl, ((h30.trans (Ow.same_new h_p_5)).trans (Ow.same_new h_p_6)), (Ow.at_new h_p_6 upd_same), (Ow.at_new h_p_6 (Ow.at_new h_p_5 h32)), (Ow.Rws.new h_p_6 (Ow.Rws.new h_p_5 h33)), (Ow.at_new h_p_6 (Ow.at_new h_p_5 h31)), upd_same, (Ow.Rws.rev (Ow.Rws.new h_p_6 (Ow.Rws.new h_p_5 h33))), (by first | exact Ow.Fr.nil | exact Ow.Sz.lit (by decide)), (by first | exact Ow.Fr.nil | exact Ow.Sz.lit (by decide)), (by first | exact Ow.Fr.nil | exact Ow.Sz.lit (by decide)), trivial⟩ (fun i σ2 H2 _ hz => ?_) ?_ ?_
      · obtain ⟨f_4, fp_4, fq_4, _, _, _, _, _, _, rfl, h37, h38, h39, h40, h41, h42, h43, h44, h45, h46, _⟩ := hz
        exact (SqL.of h42)
      · rintro i_2 xit _ Hn_5 h47 ⟨f_5, fp_5, fq_5, _, _, _, _, _, _, rfl, h48, h49, h50, h51, h52, h53, h54, h55, h56, h57, _⟩
        obtain ⟨tp_2, r_2, rfl, h_tp_2, h_r_2⟩ := Ow.Rws.get h54 h47
        have z0_r_2 : Ow.Sz 32 r_2.1 := Ow.r1_sz (Ow.FrOk.get (by first | assumption | exact Ow.FrOk.rev (by assumption)) h_r_2)
        have z1_r_2 : Ow.Sz 11 r_2.2 := Ow.r2_sz (Ow.FrOk.get (by first | assumption | exact Ow.FrOk.rev (by assumption)) h_r_2)
        have hit := (Ow.FrOk.get (by first | assumption | exact Ow.FrOk.rev (by assumption)) h_r_2)
        have hf0 := h55
        have hq0 := hf0.2.1
        have hlt := (List.getElem?_eq_some_iff.mp h_r_2).1
        refine ⟨_, rfl, ?_⟩
        refine ⟨_, rfl, ?_⟩
        refine ⟨_, _, _, _, _, _, rfl, h_tp_2, (by first | assumption | exact Ow.divw64 (by omega) (by omega) | exact Ow.mul0 ⟨by omega, by omega⟩ | exact Ow.mul1 ⟨by omega, by omega⟩ | exact Ow.shl0 (by omega) (by omega) (by omega) | exact ⟨by omega, by omega⟩ | exact ⟨by omega, by omega, by omega⟩ | omega | (simp only [List.length_append, List.length_cons, List.length_nil]; omega) | (subst_vars; omega)), (Ow.Sz.mono z0_r_2 (by decide : 32 ≤ 2410)), (Ow.Sz.mono z1_r_2 (by decide : 11 ≤ 2410)), h49, (by first | assumption | exact Ow.divw64 (by omega) (by omega) | exact Ow.mul0 ⟨by omega, by omega⟩ | exact Ow.mul1 ⟨by omega, by omega⟩ | exact Ow.shl0 (by omega) (by omega) (by omega) | exact ⟨by omega, by omega⟩ | exact ⟨by omega, by omega, by omega⟩ | omega | (simp only [List.length_append, List.length_cons, List.length_nil]; omega) | (subst_vars; omega)), (Ow.Sz.mono h56 (by decide : 700 ≤ 2410)), (Ow.Sz.mono h57 (by decide : 700 ≤ 2410)), fun p_7 q_2 h58 h59 h60 h61 h62 p_8 Hn_6 h63 h64 h65 => ?_⟩
        exact ⟨p_8, _, _, _, _, _, _, _, _, rfl, (h48.trans h63), h65, (h63 _ _ h50), (Ow.Rws.same h63 h51), (h63 _ _ h52), (h63 _ _ h53), (Ow.Rws.same h63 h54), (by first | first | exact Ow.Fr.turn h_r ⟨hit.2.2.1, hit.2.2.2.2⟩ hf0 (by assumption) (by assumption) (by assumption) | exact Ow.Fr.back h_r ⟨hit.2.2.1, hit.2.2.2.2⟩ hf0 (by assumption) (by assumption) (by assumption) | exact Ow.Fr.back h_r_2 ⟨hit.2.2.1, hit.2.2.2.2⟩ hf0 (by assumption) (by assumption) (by assumption) | exact (Ow.Fr.sz2 (by first | exact Ow.Fr.turn h_r ⟨hit.2.2.1, hit.2.2.2.2⟩ hf0 (by assumption) (by assumption) (by assumption) | exact Ow.Fr.back h_r ⟨hit.2.2.1, hit.2.2.2.2⟩ hf0 (by assumption) (by assumption) (by assumption) | exact Ow.Fr.back h_r_2 ⟨hit.2.2.1, hit.2.2.2.2⟩ hf0 (by assumption) (by assumption) (by assumption)) (Ow.FrOk.take (by first | assumption | exact Ow.FrOk.rev (by assumption)) _) (by rw [List.length_take]; first | omega | (rw [List.length_reverse]; omega))).1 | exact (Ow.Fr.sz2 (by first | exact Ow.Fr.turn h_r ⟨hit.2.2.1, hit.2.2.2.2⟩ hf0 (by assumption) (by assumption) (by assumption) | exact Ow.Fr.back h_r ⟨hit.2.2.1, hit.2.2.2.2⟩ hf0 (by assumption) (by assumption) (by assumption) | exact Ow.Fr.back h_r_2 ⟨hit.2.2.1, hit.2.2.2.2⟩ hf0 (by assumption) (by assumption) (by assumption)) (Ow.FrOk.take (by first | assumption | exact Ow.FrOk.rev (by assumption)) _) (by rw [List.length_take]; first | omega | (rw [List.length_reverse]; omega))).2), (by first | first | exact Ow.Fr.turn h_r ⟨hit.2.2.1, hit.2.2.2.2⟩ hf0 (by assumption) (by assumption) (by assumption) | exact Ow.Fr.back h_r ⟨hit.2.2.1, hit.2.2.2.2⟩ hf0 (by assumption) (by assumption) (by assumption) | exact Ow.Fr.back h_r_2 ⟨hit.2.2.1, hit.2.2.2.2⟩ hf0 (by assumption) (by assumption) (by assumption) | exact (Ow.Fr.sz2 (by first | exact Ow.Fr.turn h_r ⟨hit.2.2.1, hit.2.2.2.2⟩ hf0 (by assumption) (by assumption) (by assumption) | exact Ow.Fr.back h_r ⟨hit.2.2.1, hit.2.2.2.2⟩ hf0 (by assumption) (by assumption) (by assumption) | exact Ow.Fr.back h_r_2 ⟨hit.2.2.1, hit.2.2.2.2⟩ hf0 (by assumption) (by assumption) (by assumption)) (Ow.FrOk.take (by first | assumption | exact Ow.FrOk.rev (by assumption)) _) (by rw [List.length_take]; first | omega | (rw [List.length_reverse]; omega))).1 | exact (Ow.Fr.sz2 (by first | exact Ow.Fr.turn h_r ⟨hit.2.2.1, hit.2.2.2.2⟩ hf0 (by assumption) (by assumption) (by assumption) | exact Ow.Fr.back h_r ⟨hit.2.2.1, hit.2.2.2.2⟩ hf0 (by assumption) (by assumption) (by assumption) | exact Ow.Fr.back h_r_2 ⟨hit.2.2.1, hit.2.2.2.2⟩ hf0 (by assumption) (by assumption) (by assumption)) (Ow.FrOk.take (by first | assumption | exact Ow.FrOk.rev (by assumption)) _) (by rw [List.length_take]; first | omega | (rw [List.length_reverse]; omega))).2), (by first | first | exact Ow.Fr.turn h_r ⟨hit.2.2.1, hit.2.2.2.2⟩ hf0 (by assumption) (by assumption) (by assumption) | exact Ow.Fr.back h_r ⟨hit.2.2.1, hit.2.2.2.2⟩ hf0 (by assumption) (by assumption) (by assumption) | exact Ow.Fr.back h_r_2 ⟨hit.2.2.1, hit.2.2.2.2⟩ hf0 (by assumption) (by assumption) (by assumption) | exact (Ow.Fr.sz2 (by first | exact Ow.Fr.turn h_r ⟨hit.2.2.1, hit.2.2.2.2⟩ hf0 (by assumption) (by assumption) (by assumption) | exact Ow.Fr.back h_r ⟨hit.2.2.1, hit.2.2.2.2⟩ hf0 (by assumption) (by assumption) (by assumption) | exact Ow.Fr.back h_r_2 ⟨hit.2.2.1, hit.2.2.2.2⟩ hf0 (by assumption) (by assumption) (by assumption)) (Ow.FrOk.take (by first | assumption | exact Ow.FrOk.rev (by assumption)) _) (by rw [List.length_take]; first | omega | (rw [List.length_reverse]; omega))).1 | exact (Ow.Fr.sz2 (by first | exact Ow.Fr.turn h_r ⟨hit.2.2.1, hit.2.2.2.2⟩ hf0 (by assumption) (by assumption) (by assumption) | exact Ow.Fr.back h_r ⟨hit.2.2.1, hit.2.2.2.2⟩ hf0 (by assumption) (by assumption) (by assumption) | exact Ow.Fr.back h_r_2 ⟨hit.2.2.1, hit.2.2.2.2⟩ hf0 (by assumption) (by assumption) (by assumption)) (Ow.FrOk.take (by first | assumption | exact Ow.FrOk.rev (by assumption)) _) (by rw [List.length_take]; first | omega | (rw [List.length_reverse]; omega))).2), trivial⟩
      · rintro _ Hn_7 ⟨f_6, fp_6, fq_6, _, _, _, _, _, _, rfl, h66, h67, h68, h69, h70, h71, h72, h73, h74, h75, _⟩
        have hlen := (h72).len
        have hall := h73
        rw [hlen, List.take_length] at hall
        have hbk := hall.rev
        refine ⟨_, rfl, ?_⟩
        refine ⟨_, _, _, rfl, ⟨h68, h69⟩, (by first | assumption | exact Ow.divw64 (by omega) (by omega) | exact Ow.mul0 ⟨by omega, by omega⟩ | exact Ow.mul1 ⟨by omega, by omega⟩ | exact Ow.shl0 (by omega) (by omega) (by omega) | exact ⟨by omega, by omega⟩ | exact ⟨by omega, by omega, by omega⟩ | omega | (simp only [List.length_append, List.length_cons, List.length_nil]; omega) | (subst_vars; omega)), (by first | assumption | exact Ow.divw64 (by omega) (by omega) | exact Ow.mul0 ⟨by omega, by omega⟩ | exact Ow.mul1 ⟨by omega, by omega⟩ | exact Ow.shl0 (by omega) (by omega) (by omega) | exact ⟨by omega, by omega⟩ | exact ⟨by omega, by omega, by omega⟩ | omega | (simp only [List.length_append, List.length_cons, List.length_nil]; omega) | (subst_vars; omega)), fun t b h76 h77 h78 h79 p_9 Hn_8 h80 h81 h82 => ?_⟩
        refine ⟨_, _, rfl, (SqL.of h82), rfl, ?_⟩
        refine ⟨_, _, rfl, ?_⟩
        refine ⟨_, _, rfl, ?_⟩
        refine ⟨rfl, ?_⟩
        refine ⟨_, rfl, ?_⟩
        refine ⟨_, _, _, rfl, (h80 _ _ h70), (by first | assumption | exact hfo.2.2), (Ow.Sz.mono h36 (by decide : 700 ≤ 8000)), (by first | assumption | exact hfo.2.2), ?_⟩
        refine ⟨_, rfl, ?_⟩
        refine iteF ?_
        refine ⟨_, rfl, ?_⟩
        refine ⟨_, _, _, _, rfl, rfl, (SqT.of (h80 _ _ h70)), (by first | rfl | decide), ?_⟩
        refine ⟨_, rfl, ?_⟩
        refine ⟨_, _, rfl, rfl, (.inr (Ow.mulx h35 h79 (by decide))), fun m h_m => ?_⟩
        have z_m : Ow.Sz 1400 m := by rw [h_m]; exact (Ow.Sz.mul h35 h79)
        refine ⟨_, rfl, ?_⟩
        refine ⟨_, rfl, ?_⟩
        refine ⟨_, _, _, _, rfl, rfl, (SqT.of (h80 _ _ h70)), (by first | rfl | decide), ?_⟩
        refine ⟨_, _, rfl, rfl, (.inr (Ow.mulx h78 h36 (by decide))), fun m_2 h_m_2 => ?_⟩
        have z_m_2 : Ow.Sz 1400 m_2 := by rw [h_m_2]; exact (Ow.Sz.mul h78 h36)
        refine ⟨rfl, ?_⟩
        refine ⟨_, rfl, ?_⟩
        refine Ow.ifnei (fun h83 => ?_) (fun h83 => ?_)
        · refine iteT ?_
          exact ((by first | omega | (subst_vars; exact h83 hfo1) | exact h83 (Ow.Fr.same (by assumption) hbk hfo) | exact h83 (Ow.Fr.same (by assumption) (by assumption) hfo) | exact h83 ⟨by assumption, by assumption⟩ | exact h83 (Ow.gap_small hfo2 (by assumption) (by assumption) hr2.2 (by assumption) (by assumption) (by assumption) (by assumption))) : False).elim
        · refine ⟨_, rfl, ?_⟩
          refine ⟨_, rfl, ?_⟩
          refine ⟨(.tuple [PyData.int fp_6, PyData.int fq_6]), (.tuple [PyData.int fp_3, PyData.int fq_3]), (.tup (SqT.of (h80 _ _ h67)) (.cons (.int _) (.cons (.int _) .nil))), (.tup (SqT.of (h80 _ _ h70)) (.cons (.int _) (.cons (.int _) .nil))), (by first | rfl | exact Ow.shp (by first | rfl | (simp only [PyData.canLay0, PyData.canLayAll0, Bool.and_true, Bool.true_and]; first | decide +kernel | assumption | (simp_all; done))) (by simp [PyData.depth, PyData.depthAll])), (by first | rfl | exact Ow.shp (by first | rfl | (simp only [PyData.canLay0, PyData.canLayAll0, Bool.and_true, Bool.true_and]; first | decide +kernel | assumption | (simp_all; done))) (by simp [PyData.depth, PyData.depthAll])), ?_⟩
          rw [show PyData.eqv ((.tuple [PyData.int fp_6, PyData.int fq_6])) ((.tuple [PyData.int fp_3, PyData.int fq_3])) = decide (fp_6 = fp_3 ∧ fq_6 = fq_3) by (rw [Bool.eq_iff_iff]; simp [PyData.eqv, PyData.eqvAll])]
          refine ⟨_, rfl, ?_⟩
          refine Ow.ifnd (fun h84 => ?_) (fun h84 => ?_)
          · refine iteT ?_
            exact ((by first | omega | (subst_vars; exact h84 hfo1) | exact h84 (Ow.Fr.same (by assumption) hbk hfo) | exact h84 (Ow.Fr.same (by assumption) (by assumption) hfo) | exact h84 ⟨by assumption, by assumption⟩ | exact h84 (Ow.gap_small hfo2 (by assumption) (by assumption) hr2.2 (by assumption) (by assumption) (by assumption) (by assumption))) : False).elim
          · refine ⟨_, rfl, ?_⟩
            refine ⟨_, _, _, rfl, ⟨(h80 _ _ h68), (Ow.Rws.same h80 h69)⟩, (by first | assumption | exact Ow.divw64 (by omega) (by omega) | exact Ow.mul0 ⟨by omega, by omega⟩ | exact Ow.mul1 ⟨by omega, by omega⟩ | exact Ow.shl0 (by omega) (by omega) (by omega) | exact ⟨by omega, by omega⟩ | exact ⟨by omega, by omega, by omega⟩ | omega | (simp only [List.length_append, List.length_cons, List.length_nil]; omega) | (subst_vars; omega)), (by first | assumption | exact Ow.divw64 (by omega) (by omega) | exact Ow.mul0 ⟨by omega, by omega⟩ | exact Ow.mul1 ⟨by omega, by omega⟩ | exact Ow.shl0 (by omega) (by omega) (by omega) | exact ⟨by omega, by omega⟩ | exact ⟨by omega, by omega, by omega⟩ | omega | (simp only [List.length_append, List.length_cons, List.length_nil]; omega) | (subst_vars; omega)), (by first | assumption | exact Ow.divw64 (by omega) (by omega) | exact Ow.mul0 ⟨by omega, by omega⟩ | exact Ow.mul1 ⟨by omega, by omega⟩ | exact Ow.shl0 (by omega) (by omega) (by omega) | exact ⟨by omega, by omega⟩ | exact ⟨by omega, by omega, by omega⟩ | omega | (simp only [List.length_append, List.length_cons, List.length_nil]; omega) | (subst_vars; omega)), fun p_10 q_3 h85 h86 h87 p_11 Hn_9 h88 h89 => ?_⟩
            refine ⟨_, rfl, ?_⟩
            refine ⟨(.tuple [PyData.int p_10, PyData.int q_3]), (.tuple [PyData.int fp_3, PyData.int fq_3]), (.tup (SqT.of h89) (.cons (.int _) (.cons (.int _) .nil))), (.tup (SqT.of (h88 _ _ (h80 _ _ h70))) (.cons (.int _) (.cons (.int _) .nil))), (by first | rfl | exact Ow.shp (by first | rfl | (simp only [PyData.canLay0, PyData.canLayAll0, Bool.and_true, Bool.true_and]; first | decide +kernel | assumption | (simp_all; done))) (by simp [PyData.depth, PyData.depthAll])), (by first | rfl | exact Ow.shp (by first | rfl | (simp only [PyData.canLay0, PyData.canLayAll0, Bool.and_true, Bool.true_and]; first | decide +kernel | assumption | (simp_all; done))) (by simp [PyData.depth, PyData.depthAll])), ?_⟩
            rw [show PyData.eqv ((.tuple [PyData.int p_10, PyData.int q_3])) ((.tuple [PyData.int fp_3, PyData.int fq_3])) = decide (p_10 = fp_3 ∧ q_3 = fq_3) by (rw [Bool.eq_iff_iff]; simp [PyData.eqv, PyData.eqvAll])]
            refine ⟨_, rfl, ?_⟩
            refine Ow.ifnd (fun h90 => ?_) (fun h90 => ?_)
            · exact ((by first | omega | (subst_vars; exact h90 hfo1) | exact h90 (Ow.Fr.same (by assumption) hbk hfo) | exact h90 (Ow.Fr.same (by assumption) (by assumption) hfo) | exact h90 ⟨by assumption, by assumption⟩ | exact h90 (Ow.gap_small hfo2 (by assumption) (by assumption) hr2.2 (by assumption) (by assumption) (by assumption) (by assumption))) : False).elim
            · refine ⟨_, rfl, ?_⟩
              refine ⟨_, rfl, ?_⟩
              refine ⟨_, _, _, _, _, _, rfl, ⟨(h88 _ _ (h80 _ _ h68)), (Ow.Rws.same h88 (Ow.Rws.same h80 h69))⟩, (by first | assumption | exact Ow.divw64 (by omega) (by omega) | exact Ow.mul0 ⟨by omega, by omega⟩ | exact Ow.mul1 ⟨by omega, by omega⟩ | exact Ow.shl0 (by omega) (by omega) (by omega) | exact ⟨by omega, by omega⟩ | exact ⟨by omega, by omega, by omega⟩ | omega | (simp only [List.length_append, List.length_cons, List.length_nil]; omega) | (subst_vars; omega)), (by first | assumption | exact Ow.divw64 (by omega) (by omega) | exact Ow.mul0 ⟨by omega, by omega⟩ | exact Ow.mul1 ⟨by omega, by omega⟩ | exact Ow.shl0 (by omega) (by omega) (by omega) | exact ⟨by omega, by omega⟩ | exact ⟨by omega, by omega, by omega⟩ | omega | (simp only [List.length_append, List.length_cons, List.length_nil]; omega) | (subst_vars; omega)), (h88 _ _ (h80 _ _ h70)), (by first | assumption | exact Ow.divw64 (by omega) (by omega) | exact Ow.mul0 ⟨by omega, by omega⟩ | exact Ow.mul1 ⟨by omega, by omega⟩ | exact Ow.shl0 (by omega) (by omega) (by omega) | exact ⟨by omega, by omega⟩ | exact ⟨by omega, by omega, by omega⟩ | omega | (simp only [List.length_append, List.length_cons, List.length_nil]; omega) | (subst_vars; omega)), h35, h36, fun p_12 q_4 h91 h92 p_13 Hn_10 h93 h94 => ?_⟩
              refine ⟨by show 2 ≤ sizeLine; decide, fun p_14 h_p_14 => ?_⟩
              refine ⟨(.tuple [PyData.int p_12, PyData.int q_4]), (.tuple [PyData.int 0, PyData.int 1]), (.tup (SqT.of (Ow.at_new h_p_14 h94)) (.cons (.int _) (.cons (.int _) .nil))), (.tup (SqT.of upd_same) (.cons (.int _) (.cons (.int _) .nil))), (by first | rfl | exact Ow.shp (by first | rfl | (simp only [PyData.canLay0, PyData.canLayAll0, Bool.and_true, Bool.true_and]; first | decide +kernel | assumption | (simp_all; done))) (by simp [PyData.depth, PyData.depthAll])), (by first | rfl | exact Ow.shp (by first | rfl | (simp only [PyData.canLay0, PyData.canLayAll0, Bool.and_true, Bool.true_and]; first | decide +kernel | assumption | (simp_all; done))) (by simp [PyData.depth, PyData.depthAll])), ?_⟩
              rw [show PyData.eqv ((.tuple [PyData.int p_12, PyData.int q_4])) ((.tuple [PyData.int 0, PyData.int 1])) = decide (p_12 = 0 ∧ q_4 = 1) by (rw [Bool.eq_iff_iff]; simp [PyData.eqv, PyData.eqvAll])]
              refine ⟨_, rfl, ?_⟩
              refine Ow.ifnd (fun h95 => ?_) (fun h95 => ?_)
              · refine iteT ?_
                exact ((by first | omega | (subst_vars; exact h95 hfo1) | exact h95 (Ow.Fr.same (by assumption) hbk hfo) | exact h95 (Ow.Fr.same (by assumption) (by assumption) hfo) | exact h95 ⟨by assumption, by assumption⟩ | exact h95 (Ow.gap_small hfo2 (by assumption) (by assumption) hr2.2 (by assumption) (by assumption) (by assumption) (by assumption))) : False).elim
              · refine ⟨_, rfl, ?_⟩
                refine ⟨_, _, _, rfl, (Ow.at_new h_p_14 (h93 _ _ (h88 _ _ (h80 _ _ h70)))), (by first | assumption | exact hfo.2.2), h35, h36, (by first | assumption | exact hfo.2.2), fun Hn_11 h96 => ?_⟩
                refine ⟨_, rfl, ?_⟩
                refine iteF ?_
                refine ⟨_, rfl, ?_⟩
                refine ⟨_, _, _, rfl, (Ow.seq h96 (Ow.seq (Ow.same_new h_p_14) (Ow.seq h93 (Ow.seq h88 (Ow.seq h80 (Ow.seq h66 c0)))))), (by first | assumption | exact Ow.divw64 (by omega) (by omega) | exact Ow.mul0 ⟨by omega, by omega⟩ | exact Ow.mul1 ⟨by omega, by omega⟩ | exact Ow.shl0 (by omega) (by omega) (by omega) | exact ⟨by omega, by omega⟩ | exact ⟨by omega, by omega, by omega⟩ | omega | (simp only [List.length_append, List.length_cons, List.length_nil]; omega) | (subst_vars; omega)), (by first | assumption | exact Ow.divw64 (by omega) (by omega) | exact Ow.mul0 ⟨by omega, by omega⟩ | exact Ow.mul1 ⟨by omega, by omega⟩ | exact Ow.shl0 (by omega) (by omega) (by omega) | exact ⟨by omega, by omega⟩ | exact ⟨by omega, by omega, by omega⟩ | omega | (simp only [List.length_append, List.length_cons, List.length_nil]; omega) | (subst_vars; omega)), fun t_2 => ?_⟩
                refine ⟨_, _, rfl, rfl, (by first | assumption | exact Ow.divw64 (by omega) (by omega) | exact Ow.mul0 ⟨by omega, by omega⟩ | exact Ow.mul1 ⟨by omega, by omega⟩ | exact Ow.shl0 (by omega) (by omega) (by omega) | exact ⟨by omega, by omega⟩ | exact ⟨by omega, by omega, by omega⟩ | omega | (simp only [List.length_append, List.length_cons, List.length_nil]; omega) | (subst_vars; omega)), fun l_k h_l_k h0_l_k h1_l_k => ?_⟩
                refine Ow.gnmS (σ' := [_, _, _, _, _, _, _, _, _, _]) rfl ?_
                refine ⟨_, Ow.F_Way.Up, rfl, rfl, fun o dx Hn_12 h97 h98 h99 => ?_⟩
                refine ⟨_, _, _, _, _, rfl, .inr (.inl ⟨rfl, rfl⟩), h99, rfl, ?_⟩
                refine ⟨_, rfl, ?_⟩
                refine ⟨_, _, _, _, rfl, rfl, (SqT.of (h97 _ _ (h96 _ _ (Ow.at_new h_p_14 (h93 _ _ (h88 _ _ (h80 _ _ h70))))))), (by first | rfl | decide), ?_⟩
                refine ⟨_, rfl, ?_⟩
                refine ⟨_, _, rfl, rfl, (.inr (Ow.shlz (n := 60) h35 (by first | assumption | exact Ow.divw64 (by omega) (by omega) | exact Ow.mul0 ⟨by omega, by omega⟩ | exact Ow.mul1 ⟨by omega, by omega⟩ | exact Ow.shl0 (by omega) (by omega) (by omega) | exact ⟨by omega, by omega⟩ | exact ⟨by omega, by omega, by omega⟩ | omega | (simp only [List.length_append, List.length_cons, List.length_nil]; omega) | (subst_vars; omega)) (by first | assumption | exact Ow.divw64 (by omega) (by omega) | exact Ow.mul0 ⟨by omega, by omega⟩ | exact Ow.mul1 ⟨by omega, by omega⟩ | exact Ow.shl0 (by omega) (by omega) (by omega) | exact ⟨by omega, by omega⟩ | exact ⟨by omega, by omega, by omega⟩ | omega | (simp only [List.length_append, List.length_cons, List.length_nil]; omega) | (subst_vars; omega)) (by decide))), fun s h_s => ?_⟩
                have z_s : Ow.Sz 761 s := by rw [h_s]; exact (Ow.Sz.shl (n := 60) h35 (by first | assumption | exact Ow.divw64 (by omega) (by omega) | exact Ow.mul0 ⟨by omega, by omega⟩ | exact Ow.mul1 ⟨by omega, by omega⟩ | exact Ow.shl0 (by omega) (by omega) (by omega) | exact ⟨by omega, by omega⟩ | exact ⟨by omega, by omega, by omega⟩ | omega | (simp only [List.length_append, List.length_cons, List.length_nil]; omega) | (subst_vars; omega)))
                refine ⟨_, rfl, ?_⟩
                refine ⟨_, _, _, _, rfl, rfl, (SqT.of (h97 _ _ (h96 _ _ (Ow.at_new h_p_14 (h93 _ _ (h88 _ _ (h80 _ _ h70))))))), (by first | rfl | decide), ?_⟩
                refine ⟨_, _, _, Ow.F_Way.Up, _, rfl, h99, (Ow.Sz.mono z_s (by decide : 761 ≤ 800)), (by first | assumption | exact Ow.divw64 (by omega) (by omega) | exact Ow.mul0 ⟨by omega, by omega⟩ | exact Ow.mul1 ⟨by omega, by omega⟩ | exact Ow.shl0 (by omega) (by omega) (by omega) | exact ⟨by omega, by omega⟩ | exact ⟨by omega, by omega, by omega⟩ | omega | (simp only [List.length_append, List.length_cons, List.length_nil]; omega) | (subst_vars; omega)), (Ow.Sz.mono h36 (by decide : 700 ≤ 800)), fun l_up h100 h101 Hn_13 h102 => ?_⟩
                refine Ow.gnmS (σ' := [_, _, _, _, _, _, _, _, _, _]) rfl ?_
                have hup : l_up = Ow.up fp_3 fq_3 l_k := Ow.up_is (by assumption) (by assumption) hfo2
                refine ⟨_, rfl, ?_⟩
                refine ⟨_, rfl, ?_⟩
                refine ⟨_, _, _, _, rfl, (h102 _ _ (h97 _ _ (h96 _ _ (Ow.at_new h_p_14 (h93 _ _ (h88 _ _ (h80 _ _ h70))))))), (by first | assumption | exact Ow.divw64 (by omega) (by omega) | exact Ow.mul0 ⟨by omega, by omega⟩ | exact Ow.mul1 ⟨by omega, by omega⟩ | exact Ow.shl0 (by omega) (by omega) (by omega) | exact ⟨by omega, by omega⟩ | exact ⟨by omega, by omega, by omega⟩ | omega | (simp only [List.length_append, List.length_cons, List.length_nil]; omega) | (subst_vars; omega)), h35, h36, (by first | assumption | exact Ow.divw64 (by omega) (by omega) | exact Ow.mul0 ⟨by omega, by omega⟩ | exact Ow.mul1 ⟨by omega, by omega⟩ | exact Ow.shl0 (by omega) (by omega) (by omega) | exact ⟨by omega, by omega⟩ | exact ⟨by omega, by omega, by omega⟩ | omega | (simp only [List.length_append, List.length_cons, List.length_nil]; omega) | (subst_vars; omega)), (by first | assumption | exact Ow.divw64 (by omega) (by omega) | exact Ow.mul0 ⟨by omega, by omega⟩ | exact Ow.mul1 ⟨by omega, by omega⟩ | exact Ow.shl0 (by omega) (by omega) (by omega) | exact ⟨by omega, by omega⟩ | exact ⟨by omega, by omega, by omega⟩ | omega | (simp only [List.length_append, List.length_cons, List.length_nil]; omega) | (subst_vars; omega)), fun p_15 q_5 h103 h104 h105 h106 h107 p_16 Hn_14 h108 h109 h110 => ?_⟩
                refine Ow.gnmS (σ' := [_, _, _, _, _, _, _, _, _, _]) rfl ?_
                have hr2 := Ow.raise2 (p := p_15) (q := q_5) hfo2 (by assumption) (by assumption)
                have hr21 := hr2.1
                refine ⟨_, rfl, ?_⟩
                refine ⟨_, rfl, ?_⟩
                refine ⟨_, rfl, ?_⟩
                refine ⟨_, _, rfl, (by first | assumption | exact Ow.divw64 (by omega) (by omega) | exact Ow.mul0 ⟨by omega, by omega⟩ | exact Ow.mul1 ⟨by omega, by omega⟩ | exact Ow.shl0 (by omega) (by omega) (by omega) | exact ⟨by omega, by omega⟩ | exact ⟨by omega, by omega, by omega⟩ | omega | (simp only [List.length_append, List.length_cons, List.length_nil]; omega) | (subst_vars; omega)), (by first | assumption | exact Ow.divw64 (by omega) (by omega) | exact Ow.mul0 ⟨by omega, by omega⟩ | exact Ow.mul1 ⟨by omega, by omega⟩ | exact Ow.shl0 (by omega) (by omega) (by omega) | exact ⟨by omega, by omega⟩ | exact ⟨by omega, by omega, by omega⟩ | omega | (simp only [List.length_append, List.length_cons, List.length_nil]; omega) | (subst_vars; omega)), (Ow.Sz.mono h101 (by decide : 802 ≤ 820)), fun p_17 q_6 h111 h112 h113 h114 h115 p_18 Hn_15 h116 h117 h118 => ?_⟩
                refine ⟨(.tuple [PyData.int p_15, PyData.int q_5]), (.tuple [PyData.int p_17, PyData.int q_6]), (.tup (SqT.of (h116 _ _ h110)) (.cons (.int _) (.cons (.int _) .nil))), (.tup (SqT.of h118) (.cons (.int _) (.cons (.int _) .nil))), (by first | rfl | exact Ow.shp (by first | rfl | (simp only [PyData.canLay0, PyData.canLayAll0, Bool.and_true, Bool.true_and]; first | decide +kernel | assumption | (simp_all; done))) (by simp [PyData.depth, PyData.depthAll])), (by first | rfl | exact Ow.shp (by first | rfl | (simp only [PyData.canLay0, PyData.canLayAll0, Bool.and_true, Bool.true_and]; first | decide +kernel | assumption | (simp_all; done))) (by simp [PyData.depth, PyData.depthAll])), ?_⟩
                rw [show PyData.eqv ((.tuple [PyData.int p_15, PyData.int q_5])) ((.tuple [PyData.int p_17, PyData.int q_6])) = decide (p_15 = p_17 ∧ q_5 = q_6) by (rw [Bool.eq_iff_iff]; simp [PyData.eqv, PyData.eqvAll])]
                refine ⟨_, rfl, ?_⟩
                refine Ow.ifnd (fun h119 => ?_) (fun h119 => ?_)
                · refine iteT ?_
                  exact ((by first | omega | (subst_vars; exact h119 hfo1) | exact h119 (Ow.Fr.same (by assumption) hbk hfo) | exact h119 (Ow.Fr.same (by assumption) (by assumption) hfo) | exact h119 ⟨by assumption, by assumption⟩ | exact h119 (Ow.Fr.uniq (P := 2 ^ (l_k).toNat) (T := Ow.up fp_3 fq_3 l_k) (Ow.p2 _) ⟨by assumption, by assumption, by assumption⟩ ⟨by rw [← hup]; assumption, by assumption, by assumption⟩) | exact h119 (Ow.gap_small hfo2 (by assumption) (by assumption) hr2.2 (by assumption) (by assumption) (by assumption) (by assumption))) : False).elim
                · refine ⟨_, rfl, ?_⟩
                  refine ⟨_, rfl, ?_⟩
                  refine ⟨_, _, _, _, _, _, rfl, (h116 _ _ h110), (by first | assumption | exact Ow.divw64 (by omega) (by omega) | exact Ow.mul0 ⟨by omega, by omega⟩ | exact Ow.mul1 ⟨by omega, by omega⟩ | exact Ow.shl0 (by omega) (by omega) (by omega) | exact ⟨by omega, by omega⟩ | exact ⟨by omega, by omega, by omega⟩ | omega | (simp only [List.length_append, List.length_cons, List.length_nil]; omega) | (subst_vars; omega)), (Ow.Sz.mono h106 (by decide : 820 ≤ 8000)), (Ow.Sz.mono h107 (by decide : 62 ≤ 8000)), (h116 _ _ (h108 _ _ (h102 _ _ (h97 _ _ (h96 _ _ (Ow.at_new h_p_14 (h93 _ _ (h88 _ _ (h80 _ _ h70))))))))), (by first | assumption | exact Ow.divw64 (by omega) (by omega) | exact Ow.mul0 ⟨by omega, by omega⟩ | exact Ow.mul1 ⟨by omega, by omega⟩ | exact Ow.shl0 (by omega) (by omega) (by omega) | exact ⟨by omega, by omega⟩ | exact ⟨by omega, by omega, by omega⟩ | omega | (simp only [List.length_append, List.length_cons, List.length_nil]; omega) | (subst_vars; omega)), (Ow.Sz.mono h35 (by decide : 700 ≤ 8000)), (Ow.Sz.mono h36 (by decide : 700 ≤ 8000)), ?_⟩
                  refine ⟨_, rfl, ?_⟩
                  refine Ow.ifd (fun h120 => ?_) (fun h120 => ?_)
                  · refine iteT ?_
                    exact ((by first | omega | (subst_vars; exact h120 hfo1) | exact h120 (Ow.Fr.same (by assumption) hbk hfo) | exact h120 (Ow.Fr.same (by assumption) (by assumption) hfo) | exact h120 ⟨by assumption, by assumption⟩ | exact h120 (Ow.Fr.uniq (P := 2 ^ (l_k).toNat) (T := Ow.up fp_3 fq_3 l_k) (Ow.p2 _) ⟨by assumption, by assumption, by assumption⟩ ⟨by rw [← hup]; assumption, by assumption, by assumption⟩) | exact h120 (Ow.gap_small hfo2 (by assumption) (by assumption) hr2.2 (by assumption) (by assumption) (by assumption) (by assumption))) : False).elim
                  · refine ⟨_, rfl, ?_⟩
                    refine ⟨_, rfl, ?_⟩
                    refine ⟨_, _, _, _, _, _, rfl, (h116 _ _ h110), (by first | assumption | exact Ow.divw64 (by omega) (by omega) | exact Ow.mul0 ⟨by omega, by omega⟩ | exact Ow.mul1 ⟨by omega, by omega⟩ | exact Ow.shl0 (by omega) (by omega) (by omega) | exact ⟨by omega, by omega⟩ | exact ⟨by omega, by omega, by omega⟩ | omega | (simp only [List.length_append, List.length_cons, List.length_nil]; omega) | (subst_vars; omega)), (Ow.Sz.mono h106 (by decide : 820 ≤ 2400)), (Ow.Sz.mono h107 (by decide : 62 ≤ 2400)), (h116 _ _ (h108 _ _ (h102 _ _ (h97 _ _ (h96 _ _ (Ow.at_new h_p_14 (h93 _ _ (h88 _ _ (h80 _ _ h70))))))))), (by first | assumption | exact Ow.divw64 (by omega) (by omega) | exact Ow.mul0 ⟨by omega, by omega⟩ | exact Ow.mul1 ⟨by omega, by omega⟩ | exact Ow.shl0 (by omega) (by omega) (by omega) | exact ⟨by omega, by omega⟩ | exact ⟨by omega, by omega, by omega⟩ | omega | (simp only [List.length_append, List.length_cons, List.length_nil]; omega) | (subst_vars; omega)), (Ow.Sz.mono h35 (by decide : 700 ≤ 2400)), (Ow.Sz.mono h36 (by decide : 700 ≤ 2400)), fun p_19 q_7 h121 h122 h123 h124 h125 p_20 Hn_16 h126 h127 h128 => ?_⟩
                    refine ⟨_, rfl, ?_⟩
                    refine ⟨_, _, rfl, (by first | assumption | exact Ow.divw64 (by omega) (by omega) | exact Ow.mul0 ⟨by omega, by omega⟩ | exact Ow.mul1 ⟨by omega, by omega⟩ | exact Ow.shl0 (by omega) (by omega) (by omega) | exact ⟨by omega, by omega⟩ | exact ⟨by omega, by omega, by omega⟩ | omega | (simp only [List.length_append, List.length_cons, List.length_nil]; omega) | (subst_vars; omega)), (by first | assumption | exact Ow.divw64 (by omega) (by omega) | exact Ow.mul0 ⟨by omega, by omega⟩ | exact Ow.mul1 ⟨by omega, by omega⟩ | exact Ow.shl0 (by omega) (by omega) (by omega) | exact ⟨by omega, by omega⟩ | exact ⟨by omega, by omega, by omega⟩ | omega | (simp only [List.length_append, List.length_cons, List.length_nil]; omega) | (subst_vars; omega)), (Ow.Sz.mono (Ow.Sz.lit (n := 1) (i := 1) (by decide)) (by decide : 1 ≤ 820)), fun p_21 q_8 h129 h130 h131 h132 h133 p_22 Hn_17 h134 h135 h136 => ?_⟩
                    refine ⟨_, _, _, _, _, _, rfl, (h134 _ _ h128), (by first | assumption | exact Ow.divw64 (by omega) (by omega) | exact Ow.mul0 ⟨by omega, by omega⟩ | exact Ow.mul1 ⟨by omega, by omega⟩ | exact Ow.shl0 (by omega) (by omega) (by omega) | exact ⟨by omega, by omega⟩ | exact ⟨by omega, by omega, by omega⟩ | omega | (simp only [List.length_append, List.length_cons, List.length_nil]; omega) | (subst_vars; omega)), h124, h125, h136, (by first | assumption | exact Ow.divw64 (by omega) (by omega) | exact Ow.mul0 ⟨by omega, by omega⟩ | exact Ow.mul1 ⟨by omega, by omega⟩ | exact Ow.shl0 (by omega) (by omega) (by omega) | exact ⟨by omega, by omega⟩ | exact ⟨by omega, by omega, by omega⟩ | omega | (simp only [List.length_append, List.length_cons, List.length_nil]; omega) | (subst_vars; omega)), (Ow.Sz.mono h132 (by decide : 820 ≤ 8000)), (Ow.Sz.mono h133 (by decide : 62 ≤ 8000)), ?_⟩
                    refine ⟨_, rfl, ?_⟩
                    refine Ow.ifnd (fun h137 => ?_) (fun h137 => ?_)
                    · exact ((by first | omega | (subst_vars; exact h137 hfo1) | exact h137 (Ow.Fr.same (by assumption) hbk hfo) | exact h137 (Ow.Fr.same (by assumption) (by assumption) hfo) | exact h137 ⟨by assumption, by assumption⟩ | exact h137 (Ow.Fr.uniq (P := 2 ^ (l_k).toNat) (T := Ow.up fp_3 fq_3 l_k) (Ow.p2 _) ⟨by assumption, by assumption, by assumption⟩ ⟨by rw [← hup]; assumption, by assumption, by assumption⟩) | exact h137 (Ow.gap_small hfo2 (by assumption) (by assumption) hr2.2 (by assumption) (by assumption) (by assumption) (by assumption))) : False).elim
                    · refine ⟨_, rfl, ?_⟩
                      refine ⟨_, rfl, ?_⟩
                      refine ⟨_, rfl, rfl, (by first | assumption | exact Ow.divw64 (by omega) (by omega) | exact Ow.mul0 ⟨by omega, by omega⟩ | exact Ow.mul1 ⟨by omega, by omega⟩ | exact Ow.shl0 (by omega) (by omega) (by omega) | exact ⟨by omega, by omega⟩ | exact ⟨by omega, by omega, by omega⟩ | omega | (simp only [List.length_append, List.length_cons, List.length_nil]; omega) | (subst_vars; omega)), fun B h_B h0_B => ?_⟩
                      have z_B : Ow.Sz 61 B := by rw [h_B]; exact Ow.Sz.pow (n := 60) (by first | assumption | exact Ow.divw64 (by omega) (by omega) | exact Ow.mul0 ⟨by omega, by omega⟩ | exact Ow.mul1 ⟨by omega, by omega⟩ | exact Ow.shl0 (by omega) (by omega) (by omega) | exact ⟨by omega, by omega⟩ | exact ⟨by omega, by omega, by omega⟩ | omega | (simp only [List.length_append, List.length_cons, List.length_nil]; omega) | (subst_vars; omega))
                      refine ⟨by show 2 ≤ sizeLine; decide, fun p_23 h_p_23 => ?_⟩
                      refine ⟨_, _, _, _, _, _, rfl, (Ow.at_new h_p_23 (h134 _ _ (h126 _ _ (h116 _ _ h110)))), (by first | assumption | exact Ow.divw64 (by omega) (by omega) | exact Ow.mul0 ⟨by omega, by omega⟩ | exact Ow.mul1 ⟨by omega, by omega⟩ | exact Ow.shl0 (by omega) (by omega) (by omega) | exact ⟨by omega, by omega⟩ | exact ⟨by omega, by omega, by omega⟩ | omega | (simp only [List.length_append, List.length_cons, List.length_nil]; omega) | (subst_vars; omega)), (Ow.Sz.mono h106 (by decide : 820 ≤ 2400)), (Ow.Sz.mono h107 (by decide : 62 ≤ 2400)), upd_same, (by first | assumption | exact Ow.divw64 (by omega) (by omega) | exact Ow.mul0 ⟨by omega, by omega⟩ | exact Ow.mul1 ⟨by omega, by omega⟩ | exact Ow.shl0 (by omega) (by omega) (by omega) | exact ⟨by omega, by omega⟩ | exact ⟨by omega, by omega, by omega⟩ | omega | (simp only [List.length_append, List.length_cons, List.length_nil]; omega) | (subst_vars; omega)), (Ow.Sz.mono z_B (by decide : 61 ≤ 2400)), (Ow.Sz.mono (Ow.Sz.lit (n := 1) (i := 1) (by decide)) (by decide : 1 ≤ 2400)), fun p_24 q_9 h138 h139 h140 h141 h142 p_25 Hn_18 h143 h144 h145 => ?_⟩
                      refine ⟨_, rfl, ?_⟩
                      refine ⟨by show 2 ≤ sizeLine; decide, fun p_26 h_p_26 => ?_⟩
                      refine ⟨(.tuple [PyData.int p_24, PyData.int q_9]), (.tuple [PyData.int l_up, PyData.int 1]), (.tup (SqT.of (Ow.at_new h_p_26 h145)) (.cons (.int _) (.cons (.int _) .nil))), (.tup (SqT.of upd_same) (.cons (.int _) (.cons (.int _) .nil))), (by first | rfl | exact Ow.shp (by first | rfl | (simp only [PyData.canLay0, PyData.canLayAll0, Bool.and_true, Bool.true_and]; first | decide +kernel | assumption | (simp_all; done))) (by simp [PyData.depth, PyData.depthAll])), (by first | rfl | exact Ow.shp (by first | rfl | (simp only [PyData.canLay0, PyData.canLayAll0, Bool.and_true, Bool.true_and]; first | decide +kernel | assumption | (simp_all; done))) (by simp [PyData.depth, PyData.depthAll])), ?_⟩
                      rw [show PyData.eqv ((.tuple [PyData.int p_24, PyData.int q_9])) ((.tuple [PyData.int l_up, PyData.int 1])) = decide (p_24 = l_up ∧ q_9 = 1) by (rw [Bool.eq_iff_iff]; simp [PyData.eqv, PyData.eqvAll])]
                      refine Ow.eqd (by exact Ow.back_up (k := l_k) (p := p_15) (q := q_5) (by assumption) (by rw [hup]; assumption) (by rw [← h_B]; assumption) (by assumption) (by assumption)) ?_
                      exact kont _ ((((((((((((((h66.trans h80).trans h88).trans h93).trans (Ow.same_new h_p_14)).trans h96).trans h97).trans h102).trans h108).trans h116).trans h126).trans h134).trans (Ow.same_new h_p_23)).trans h143).trans (Ow.same_new h_p_26))
end
def tx_mk {K : PySem.W.Frag} {h : Heap} {mg : Str → Option Value} (X : K.In h) (G : h.Ns mainGlobals mg) {K_Cut : Addr} {K_Down : Addr} {K_Near : Addr} {K_Up : Addr}     {f_l_begun : Addr} {od_l_begun an_l_begun : Option Addr} {oc_l_begun kV_l_begun dc_l_begun pm_l_begun cd_l_begun ct_l_begun : Value} {sl_l_begun : Array (Option Value)} {f_l_draw : Addr} {od_l_draw an_l_draw : Option Addr} {oc_l_draw kV_l_draw dc_l_draw pm_l_draw cd_l_draw ct_l_draw : Value} {sl_l_draw : Array (Option Value)} {f_l_divisor : Addr} {od_l_divisor an_l_divisor : Option Addr} {oc_l_divisor kV_l_divisor dc_l_divisor pm_l_divisor cd_l_divisor ct_l_divisor : Value} {sl_l_divisor : Array (Option Value)} {f_l_cell : Addr} {od_l_cell an_l_cell : Option Addr} {oc_l_cell kV_l_cell dc_l_cell pm_l_cell cd_l_cell ct_l_cell : Value} {sl_l_cell : Array (Option Value)} {f_l_drawn : Addr} {od_l_drawn an_l_drawn : Option Addr} {oc_l_drawn kV_l_drawn dc_l_drawn pm_l_drawn cd_l_drawn ct_l_drawn : Value} {sl_l_drawn : Array (Option Value)} {f_l_summed : Addr} {od_l_summed an_l_summed : Option Addr} {oc_l_summed kV_l_summed dc_l_summed pm_l_summed cd_l_summed ct_l_summed : Value} {sl_l_summed : Array (Option Value)} {f_Down_adjust : Addr} {od_Down_adjust an_Down_adjust : Option Addr} {oc_Down_adjust kV_Down_adjust dc_Down_adjust pm_Down_adjust cd_Down_adjust ct_Down_adjust : Value} {sl_Down_adjust : Array (Option Value)}  {f_Up_adjust : Addr} {od_Up_adjust an_Up_adjust : Option Addr} {oc_Up_adjust kV_Up_adjust dc_Up_adjust pm_Up_adjust cd_Up_adjust ct_Up_adjust : Value} {sl_Up_adjust : Array (Option Value)}  {f_Way_adjust : Addr} {od_Way_adjust an_Way_adjust : Option Addr} {oc_Way_adjust kV_Way_adjust dc_Way_adjust pm_Way_adjust cd_Way_adjust ct_Way_adjust : Value} {sl_Way_adjust : Array (Option Value)}  {f_Near_adjust : Addr} {od_Near_adjust an_Near_adjust : Option Addr} {oc_Near_adjust kV_Near_adjust dc_Near_adjust pm_Near_adjust cd_Near_adjust ct_Near_adjust : Value} {sl_Near_adjust : Array (Option Value)}  {f_Way_rounded : Addr} {od_Way_rounded an_Way_rounded : Option Addr} {oc_Way_rounded kV_Way_rounded dc_Way_rounded pm_Way_rounded cd_Way_rounded ct_Way_rounded : Value} {sl_Way_rounded : Array (Option Value)}     {f_divisor_of : Addr} {od_divisor_of an_divisor_of : Option Addr} {oc_divisor_of kV_divisor_of dc_divisor_of pm_divisor_of cd_divisor_of ct_divisor_of : Value} {sl_divisor_of : Array (Option Value)} {f_lowest : Addr} {od_lowest an_lowest : Option Addr} {oc_lowest kV_lowest dc_lowest pm_lowest cd_lowest ct_lowest : Value} {sl_lowest : Array (Option Value)} {f_by_twos : Addr} {od_by_twos an_by_twos : Option Addr} {oc_by_twos kV_by_twos dc_by_twos pm_by_twos cd_by_twos ct_by_twos : Value} {sl_by_twos : Array (Option Value)} {f_raised : Addr} {od_raised an_raised : Option Addr} {oc_raised kV_raised dc_raised pm_raised cd_raised ct_raised : Value} {sl_raised : Array (Option Value)} {f_plus : Addr} {od_plus an_plus : Option Addr} {oc_plus kV_plus dc_plus pm_plus cd_plus ct_plus : Value} {sl_plus : Array (Option Value)} {f_less : Addr} {od_less an_less : Option Addr} {oc_less kV_less dc_less pm_less cd_less ct_less : Value} {sl_less : Array (Option Value)} {f_times : Addr} {od_times an_times : Option Addr} {oc_times kV_times dc_times pm_times cd_times ct_times : Value} {sl_times : Array (Option Value)} {f_l_whole : Addr} {od_l_whole an_l_whole : Option Addr} {oc_l_whole kV_l_whole dc_l_whole pm_l_whole cd_l_whole ct_l_whole : Value} {sl_l_whole : Array (Option Value)} {f_l_is_fraction : Addr} {od_l_is_fraction an_l_is_fraction : Option Addr} {oc_l_is_fraction kV_l_is_fraction dc_l_is_fraction pm_l_is_fraction cd_l_is_fraction ct_l_is_fraction : Value} {sl_l_is_fraction : Array (Option Value)} {f_l_halves : Addr} {od_l_halves an_l_halves : Option Addr} {oc_l_halves kV_l_halves dc_l_halves pm_l_halves cd_l_halves ct_l_halves : Value} {sl_l_halves : Array (Option Value)} {f_minus : Addr} {od_minus an_minus : Option Addr} {oc_minus kV_minus dc_minus pm_minus cd_minus ct_minus : Value} {sl_minus : Array (Option Value)} {f_l_left_over : Addr} {od_l_left_over an_l_left_over : Option Addr} {oc_l_left_over kV_l_left_over dc_l_left_over pm_l_left_over cd_l_left_over ct_l_left_over : Value} {sl_l_left_over : Array (Option Value)} {f_all_ways : Addr} {od_all_ways an_all_ways : Option Addr} {oc_all_ways kV_all_ways dc_all_ways pm_all_ways cd_all_ways ct_all_ways : Value} {sl_all_ways : Array (Option Value)} {f_way_of : Addr} {od_way_of an_way_of : Option Addr} {oc_way_of kV_way_of dc_way_of pm_way_of cd_way_of ct_way_of : Value} {sl_way_of : Array (Option Value)} {f_l_right : Addr} {od_l_right an_l_right : Option Addr} {oc_l_right kV_l_right dc_l_right pm_l_right cd_l_right ct_l_right : Value} {sl_l_right : Array (Option Value)} {f_l_roundings : Addr} {od_l_roundings an_l_roundings : Option Addr} {oc_l_roundings kV_l_roundings dc_l_roundings pm_l_roundings cd_l_roundings ct_l_roundings : Value} {sl_l_roundings : Array (Option Value)} {f_law : Addr} {od_law an_law : Option Addr} {oc_law kV_law dc_law pm_law cd_law ct_law : Value} {sl_law : Array (Option Value)}          
    (ak_Cut : PySem.W.nsIn K mainGlobals "Cut" = some (some (.ref K_Cut)))
    (kp_Cut : PySem.W.plainGet K K_Cut Str.empty = true)
    (kh_Cut : PySem.W.hasDictIn K K_Cut = true)
    (ko_Cut : PySem.W.plainOver K K_Cut = true)
    (ks_Cut : PySem.W.findIn K (.ref K_Cut) "__setattr__" = some (some (.builtin "object.__setattr__")))
    (ak_Down : PySem.W.nsIn K mainGlobals "Down" = some (some (.ref K_Down)))
    (kp_Down : PySem.W.plainGet K K_Down Str.empty = true)
    (kh_Down : PySem.W.hasDictIn K K_Down = true)
    (ko_Down : PySem.W.plainOver K K_Down = true)
    (ks_Down : PySem.W.findIn K (.ref K_Down) "__setattr__" = some (some (.builtin "object.__setattr__")))
    (ak_Near : PySem.W.nsIn K mainGlobals "Near" = some (some (.ref K_Near)))
    (kp_Near : PySem.W.plainGet K K_Near Str.empty = true)
    (kh_Near : PySem.W.hasDictIn K K_Near = true)
    (ko_Near : PySem.W.plainOver K K_Near = true)
    (ks_Near : PySem.W.findIn K (.ref K_Near) "__setattr__" = some (some (.builtin "object.__setattr__")))
    (ak_Up : PySem.W.nsIn K mainGlobals "Up" = some (some (.ref K_Up)))
    (kp_Up : PySem.W.plainGet K K_Up Str.empty = true)
    (kh_Up : PySem.W.hasDictIn K K_Up = true)
    (ko_Up : PySem.W.plainOver K K_Up = true)
    (ks_Up : PySem.W.findIn K (.ref K_Up) "__setattr__" = some (some (.builtin "object.__setattr__")))
    (km_Cut : PySem.W.makesIn K K_Cut = true)
    (ki_Cut : PySem.W.findIn K (.ref K_Cut) "__init__" = some (some (.builtin "object.__init__")))
    (kt_Cut : PySem.W.mroIn K K_Cut (.type "object") = some true)
    (kk_Cut : PySem.W.keepIn K (.ref K_Cut) = true)
    (km_Down : PySem.W.makesIn K K_Down = true)
    (ki_Down : PySem.W.findIn K (.ref K_Down) "__init__" = some (some (.builtin "object.__init__")))
    (kt_Down : PySem.W.mroIn K K_Down (.type "object") = some true)
    (kk_Down : PySem.W.keepIn K (.ref K_Down) = true)
    (km_Near : PySem.W.makesIn K K_Near = true)
    (ki_Near : PySem.W.findIn K (.ref K_Near) "__init__" = some (some (.builtin "object.__init__")))
    (kt_Near : PySem.W.mroIn K K_Near (.type "object") = some true)
    (kk_Near : PySem.W.keepIn K (.ref K_Near) = true)
    (km_Up : PySem.W.makesIn K K_Up = true)
    (ki_Up : PySem.W.findIn K (.ref K_Up) "__init__" = some (some (.builtin "object.__init__")))
    (kt_Up : PySem.W.mroIn K K_Up (.type "object") = some true)
    (kk_Up : PySem.W.keepIn K (.ref K_Up) = true)
    (a_l_begun : PySem.W.nsIn K mainGlobals "_law_begun" = some (some (.ref f_l_begun)))
    (l_l_begun : K.lookup f_l_begun = some ⟨oc_l_begun, od_l_begun, .func (PySem.W.fnOf "_law_begun" "_law_begun" (defArgs s_l_begun) (defBody s_l_begun) (defScope s_l_begun) .none kV_l_begun dc_l_begun pm_l_begun an_l_begun cd_l_begun ct_l_begun), sl_l_begun⟩)
    (c_l_begun : PySem.W.codeIn K cd_l_begun "_law_begun" = true)
    (k_l_begun : PySem.W.keepIn K (.ref f_l_begun) = true)
    (a_l_draw : PySem.W.nsIn K mainGlobals "_law_draw" = some (some (.ref f_l_draw)))
    (l_l_draw : K.lookup f_l_draw = some ⟨oc_l_draw, od_l_draw, .func (PySem.W.fnOf "_law_draw" "_law_draw" (defArgs s_l_draw) (defBody s_l_draw) (defScope s_l_draw) .none kV_l_draw dc_l_draw pm_l_draw an_l_draw cd_l_draw ct_l_draw), sl_l_draw⟩)
    (c_l_draw : PySem.W.codeIn K cd_l_draw "_law_draw" = true)
    (k_l_draw : PySem.W.keepIn K (.ref f_l_draw) = true)
    (a_l_divisor : PySem.W.nsIn K mainGlobals "_law_divisor" = some (some (.ref f_l_divisor)))
    (l_l_divisor : K.lookup f_l_divisor = some ⟨oc_l_divisor, od_l_divisor, .func (PySem.W.fnOf "_law_divisor" "_law_divisor" (defArgs s_l_divisor) (defBody s_l_divisor) (defScope s_l_divisor) .none kV_l_divisor dc_l_divisor pm_l_divisor an_l_divisor cd_l_divisor ct_l_divisor), sl_l_divisor⟩)
    (c_l_divisor : PySem.W.codeIn K cd_l_divisor "_law_divisor" = true)
    (k_l_divisor : PySem.W.keepIn K (.ref f_l_divisor) = true)
    (a_l_cell : PySem.W.nsIn K mainGlobals "_law_cell" = some (some (.ref f_l_cell)))
    (l_l_cell : K.lookup f_l_cell = some ⟨oc_l_cell, od_l_cell, .func (PySem.W.fnOf "_law_cell" "_law_cell" (defArgs s_l_cell) (defBody s_l_cell) (defScope s_l_cell) .none kV_l_cell dc_l_cell pm_l_cell an_l_cell cd_l_cell ct_l_cell), sl_l_cell⟩)
    (c_l_cell : PySem.W.codeIn K cd_l_cell "_law_cell" = true)
    (k_l_cell : PySem.W.keepIn K (.ref f_l_cell) = true)
    (a_l_drawn : PySem.W.nsIn K mainGlobals "_law_drawn" = some (some (.ref f_l_drawn)))
    (l_l_drawn : K.lookup f_l_drawn = some ⟨oc_l_drawn, od_l_drawn, .func (PySem.W.fnOf "_law_drawn" "_law_drawn" (defArgs s_l_drawn) (defBody s_l_drawn) (defScope s_l_drawn) .none kV_l_drawn dc_l_drawn pm_l_drawn an_l_drawn cd_l_drawn ct_l_drawn), sl_l_drawn⟩)
    (c_l_drawn : PySem.W.codeIn K cd_l_drawn "_law_drawn" = true)
    (k_l_drawn : PySem.W.keepIn K (.ref f_l_drawn) = true)
    (a_l_summed : PySem.W.nsIn K mainGlobals "_law_summed" = some (some (.ref f_l_summed)))
    (l_l_summed : K.lookup f_l_summed = some ⟨oc_l_summed, od_l_summed, .func (PySem.W.fnOf "_law_summed" "_law_summed" (defArgs s_l_summed) (defBody s_l_summed) (defScope s_l_summed) .none kV_l_summed dc_l_summed pm_l_summed an_l_summed cd_l_summed ct_l_summed), sl_l_summed⟩)
    (c_l_summed : PySem.W.codeIn K cd_l_summed "_law_summed" = true)
    (k_l_summed : PySem.W.keepIn K (.ref f_l_summed) = true)
    (l_Down_adjust : K.lookup f_Down_adjust = some ⟨oc_Down_adjust, od_Down_adjust, .func (PySem.W.fnOf "adjust" "Down.adjust" (defArgs s_Down_adjust) (defBody s_Down_adjust) (defScope s_Down_adjust) .none kV_Down_adjust dc_Down_adjust pm_Down_adjust an_Down_adjust cd_Down_adjust ct_Down_adjust), sl_Down_adjust⟩)
    (c_Down_adjust : PySem.W.codeIn K cd_Down_adjust "Down.adjust" = true)
    (k_Down_adjust : PySem.W.keepIn K (.ref f_Down_adjust) = true)
    (ma_Down_adjust : PySem.W.findIn K (.ref K_Down) "adjust" = some (some (.ref f_Down_adjust)))
    (mf_Down_adjust : PySem.W.isFn K (.ref f_Down_adjust) = true)
    (l_Up_adjust : K.lookup f_Up_adjust = some ⟨oc_Up_adjust, od_Up_adjust, .func (PySem.W.fnOf "adjust" "Up.adjust" (defArgs s_Up_adjust) (defBody s_Up_adjust) (defScope s_Up_adjust) .none kV_Up_adjust dc_Up_adjust pm_Up_adjust an_Up_adjust cd_Up_adjust ct_Up_adjust), sl_Up_adjust⟩)
    (c_Up_adjust : PySem.W.codeIn K cd_Up_adjust "Up.adjust" = true)
    (k_Up_adjust : PySem.W.keepIn K (.ref f_Up_adjust) = true)
    (ma_Up_adjust : PySem.W.findIn K (.ref K_Up) "adjust" = some (some (.ref f_Up_adjust)))
    (mf_Up_adjust : PySem.W.isFn K (.ref f_Up_adjust) = true)
    (l_Way_adjust : K.lookup f_Way_adjust = some ⟨oc_Way_adjust, od_Way_adjust, .func (PySem.W.fnOf "adjust" "Way.adjust" (defArgs s_Way_adjust) (defBody s_Way_adjust) (defScope s_Way_adjust) .none kV_Way_adjust dc_Way_adjust pm_Way_adjust an_Way_adjust cd_Way_adjust ct_Way_adjust), sl_Way_adjust⟩)
    (c_Way_adjust : PySem.W.codeIn K cd_Way_adjust "Way.adjust" = true)
    (k_Way_adjust : PySem.W.keepIn K (.ref f_Way_adjust) = true)
    (ma_Cut_adjust : PySem.W.findIn K (.ref K_Cut) "adjust" = some (some (.ref f_Way_adjust)))
    (mf_Cut_adjust : PySem.W.isFn K (.ref f_Way_adjust) = true)
    (l_Near_adjust : K.lookup f_Near_adjust = some ⟨oc_Near_adjust, od_Near_adjust, .func (PySem.W.fnOf "adjust" "Near.adjust" (defArgs s_Near_adjust) (defBody s_Near_adjust) (defScope s_Near_adjust) .none kV_Near_adjust dc_Near_adjust pm_Near_adjust an_Near_adjust cd_Near_adjust ct_Near_adjust), sl_Near_adjust⟩)
    (c_Near_adjust : PySem.W.codeIn K cd_Near_adjust "Near.adjust" = true)
    (k_Near_adjust : PySem.W.keepIn K (.ref f_Near_adjust) = true)
    (ma_Near_adjust : PySem.W.findIn K (.ref K_Near) "adjust" = some (some (.ref f_Near_adjust)))
    (mf_Near_adjust : PySem.W.isFn K (.ref f_Near_adjust) = true)
    (l_Way_rounded : K.lookup f_Way_rounded = some ⟨oc_Way_rounded, od_Way_rounded, .func (PySem.W.fnOf "rounded" "Way.rounded" (defArgs s_Way_rounded) (defBody s_Way_rounded) (defScope s_Way_rounded) .none kV_Way_rounded dc_Way_rounded pm_Way_rounded an_Way_rounded cd_Way_rounded ct_Way_rounded), sl_Way_rounded⟩)
    (c_Way_rounded : PySem.W.codeIn K cd_Way_rounded "Way.rounded" = true)
    (k_Way_rounded : PySem.W.keepIn K (.ref f_Way_rounded) = true)
    (ma_Cut_rounded : PySem.W.findIn K (.ref K_Cut) "rounded" = some (some (.ref f_Way_rounded)))
    (mf_Cut_rounded : PySem.W.isFn K (.ref f_Way_rounded) = true)
    (ma_Down_rounded : PySem.W.findIn K (.ref K_Down) "rounded" = some (some (.ref f_Way_rounded)))
    (mf_Down_rounded : PySem.W.isFn K (.ref f_Way_rounded) = true)
    (ma_Near_rounded : PySem.W.findIn K (.ref K_Near) "rounded" = some (some (.ref f_Way_rounded)))
    (mf_Near_rounded : PySem.W.isFn K (.ref f_Way_rounded) = true)
    (ma_Up_rounded : PySem.W.findIn K (.ref K_Up) "rounded" = some (some (.ref f_Way_rounded)))
    (mf_Up_rounded : PySem.W.isFn K (.ref f_Way_rounded) = true)
    (a_divisor_of : PySem.W.nsIn K mainGlobals "divisor_of" = some (some (.ref f_divisor_of)))
    (l_divisor_of : K.lookup f_divisor_of = some ⟨oc_divisor_of, od_divisor_of, .func (PySem.W.fnOf "divisor_of" "divisor_of" (defArgs s_divisor_of) (defBody s_divisor_of) (defScope s_divisor_of) .none kV_divisor_of dc_divisor_of pm_divisor_of an_divisor_of cd_divisor_of ct_divisor_of), sl_divisor_of⟩)
    (c_divisor_of : PySem.W.codeIn K cd_divisor_of "divisor_of" = true)
    (k_divisor_of : PySem.W.keepIn K (.ref f_divisor_of) = true)
    (a_lowest : PySem.W.nsIn K mainGlobals "lowest" = some (some (.ref f_lowest)))
    (l_lowest : K.lookup f_lowest = some ⟨oc_lowest, od_lowest, .func (PySem.W.fnOf "lowest" "lowest" (defArgs s_lowest) (defBody s_lowest) (defScope s_lowest) .none kV_lowest dc_lowest pm_lowest an_lowest cd_lowest ct_lowest), sl_lowest⟩)
    (c_lowest : PySem.W.codeIn K cd_lowest "lowest" = true)
    (k_lowest : PySem.W.keepIn K (.ref f_lowest) = true)
    (a_by_twos : PySem.W.nsIn K mainGlobals "by_twos" = some (some (.ref f_by_twos)))
    (l_by_twos : K.lookup f_by_twos = some ⟨oc_by_twos, od_by_twos, .func (PySem.W.fnOf "by_twos" "by_twos" (defArgs s_by_twos) (defBody s_by_twos) (defScope s_by_twos) .none kV_by_twos dc_by_twos pm_by_twos an_by_twos cd_by_twos ct_by_twos), sl_by_twos⟩)
    (c_by_twos : PySem.W.codeIn K cd_by_twos "by_twos" = true)
    (k_by_twos : PySem.W.keepIn K (.ref f_by_twos) = true)
    (a_raised : PySem.W.nsIn K mainGlobals "raised" = some (some (.ref f_raised)))
    (l_raised : K.lookup f_raised = some ⟨oc_raised, od_raised, .func (PySem.W.fnOf "raised" "raised" (defArgs s_raised) (defBody s_raised) (defScope s_raised) .none kV_raised dc_raised pm_raised an_raised cd_raised ct_raised), sl_raised⟩)
    (c_raised : PySem.W.codeIn K cd_raised "raised" = true)
    (k_raised : PySem.W.keepIn K (.ref f_raised) = true)
    (a_plus : PySem.W.nsIn K mainGlobals "plus" = some (some (.ref f_plus)))
    (l_plus : K.lookup f_plus = some ⟨oc_plus, od_plus, .func (PySem.W.fnOf "plus" "plus" (defArgs s_plus) (defBody s_plus) (defScope s_plus) .none kV_plus dc_plus pm_plus an_plus cd_plus ct_plus), sl_plus⟩)
    (c_plus : PySem.W.codeIn K cd_plus "plus" = true)
    (k_plus : PySem.W.keepIn K (.ref f_plus) = true)
    (a_less : PySem.W.nsIn K mainGlobals "less" = some (some (.ref f_less)))
    (l_less : K.lookup f_less = some ⟨oc_less, od_less, .func (PySem.W.fnOf "less" "less" (defArgs s_less) (defBody s_less) (defScope s_less) .none kV_less dc_less pm_less an_less cd_less ct_less), sl_less⟩)
    (c_less : PySem.W.codeIn K cd_less "less" = true)
    (k_less : PySem.W.keepIn K (.ref f_less) = true)
    (a_times : PySem.W.nsIn K mainGlobals "times" = some (some (.ref f_times)))
    (l_times : K.lookup f_times = some ⟨oc_times, od_times, .func (PySem.W.fnOf "times" "times" (defArgs s_times) (defBody s_times) (defScope s_times) .none kV_times dc_times pm_times an_times cd_times ct_times), sl_times⟩)
    (c_times : PySem.W.codeIn K cd_times "times" = true)
    (k_times : PySem.W.keepIn K (.ref f_times) = true)
    (a_l_whole : PySem.W.nsIn K mainGlobals "_law_whole" = some (some (.ref f_l_whole)))
    (l_l_whole : K.lookup f_l_whole = some ⟨oc_l_whole, od_l_whole, .func (PySem.W.fnOf "_law_whole" "_law_whole" (defArgs s_l_whole) (defBody s_l_whole) (defScope s_l_whole) .none kV_l_whole dc_l_whole pm_l_whole an_l_whole cd_l_whole ct_l_whole), sl_l_whole⟩)
    (c_l_whole : PySem.W.codeIn K cd_l_whole "_law_whole" = true)
    (k_l_whole : PySem.W.keepIn K (.ref f_l_whole) = true)
    (a_l_is_fraction : PySem.W.nsIn K mainGlobals "_law_is_fraction" = some (some (.ref f_l_is_fraction)))
    (l_l_is_fraction : K.lookup f_l_is_fraction = some ⟨oc_l_is_fraction, od_l_is_fraction, .func (PySem.W.fnOf "_law_is_fraction" "_law_is_fraction" (defArgs s_l_is_fraction) (defBody s_l_is_fraction) (defScope s_l_is_fraction) .none kV_l_is_fraction dc_l_is_fraction pm_l_is_fraction an_l_is_fraction cd_l_is_fraction ct_l_is_fraction), sl_l_is_fraction⟩)
    (c_l_is_fraction : PySem.W.codeIn K cd_l_is_fraction "_law_is_fraction" = true)
    (k_l_is_fraction : PySem.W.keepIn K (.ref f_l_is_fraction) = true)
    (a_l_halves : PySem.W.nsIn K mainGlobals "_law_halves" = some (some (.ref f_l_halves)))
    (l_l_halves : K.lookup f_l_halves = some ⟨oc_l_halves, od_l_halves, .func (PySem.W.fnOf "_law_halves" "_law_halves" (defArgs s_l_halves) (defBody s_l_halves) (defScope s_l_halves) .none kV_l_halves dc_l_halves pm_l_halves an_l_halves cd_l_halves ct_l_halves), sl_l_halves⟩)
    (c_l_halves : PySem.W.codeIn K cd_l_halves "_law_halves" = true)
    (k_l_halves : PySem.W.keepIn K (.ref f_l_halves) = true)
    (a_minus : PySem.W.nsIn K mainGlobals "minus" = some (some (.ref f_minus)))
    (l_minus : K.lookup f_minus = some ⟨oc_minus, od_minus, .func (PySem.W.fnOf "minus" "minus" (defArgs s_minus) (defBody s_minus) (defScope s_minus) .none kV_minus dc_minus pm_minus an_minus cd_minus ct_minus), sl_minus⟩)
    (c_minus : PySem.W.codeIn K cd_minus "minus" = true)
    (k_minus : PySem.W.keepIn K (.ref f_minus) = true)
    (a_l_left_over : PySem.W.nsIn K mainGlobals "_law_left_over" = some (some (.ref f_l_left_over)))
    (l_l_left_over : K.lookup f_l_left_over = some ⟨oc_l_left_over, od_l_left_over, .func (PySem.W.fnOf "_law_left_over" "_law_left_over" (defArgs s_l_left_over) (defBody s_l_left_over) (defScope s_l_left_over) .none kV_l_left_over dc_l_left_over pm_l_left_over an_l_left_over cd_l_left_over ct_l_left_over), sl_l_left_over⟩)
    (c_l_left_over : PySem.W.codeIn K cd_l_left_over "_law_left_over" = true)
    (k_l_left_over : PySem.W.keepIn K (.ref f_l_left_over) = true)
    (a_all_ways : PySem.W.nsIn K mainGlobals "all_ways" = some (some (.ref f_all_ways)))
    (l_all_ways : K.lookup f_all_ways = some ⟨oc_all_ways, od_all_ways, .func (PySem.W.fnOf "all_ways" "all_ways" (defArgs s_all_ways) (defBody s_all_ways) (defScope s_all_ways) .none kV_all_ways dc_all_ways pm_all_ways an_all_ways cd_all_ways ct_all_ways), sl_all_ways⟩)
    (c_all_ways : PySem.W.codeIn K cd_all_ways "all_ways" = true)
    (k_all_ways : PySem.W.keepIn K (.ref f_all_ways) = true)
    (a_way_of : PySem.W.nsIn K mainGlobals "way_of" = some (some (.ref f_way_of)))
    (l_way_of : K.lookup f_way_of = some ⟨oc_way_of, od_way_of, .func (PySem.W.fnOf "way_of" "way_of" (defArgs s_way_of) (defBody s_way_of) (defScope s_way_of) .none kV_way_of dc_way_of pm_way_of an_way_of cd_way_of ct_way_of), sl_way_of⟩)
    (c_way_of : PySem.W.codeIn K cd_way_of "way_of" = true)
    (k_way_of : PySem.W.keepIn K (.ref f_way_of) = true)
    (a_l_right : PySem.W.nsIn K mainGlobals "_law_right" = some (some (.ref f_l_right)))
    (l_l_right : K.lookup f_l_right = some ⟨oc_l_right, od_l_right, .func (PySem.W.fnOf "_law_right" "_law_right" (defArgs s_l_right) (defBody s_l_right) (defScope s_l_right) .none kV_l_right dc_l_right pm_l_right an_l_right cd_l_right ct_l_right), sl_l_right⟩)
    (c_l_right : PySem.W.codeIn K cd_l_right "_law_right" = true)
    (k_l_right : PySem.W.keepIn K (.ref f_l_right) = true)
    (a_l_roundings : PySem.W.nsIn K mainGlobals "_law_roundings" = some (some (.ref f_l_roundings)))
    (l_l_roundings : K.lookup f_l_roundings = some ⟨oc_l_roundings, od_l_roundings, .func (PySem.W.fnOf "_law_roundings" "_law_roundings" (defArgs s_l_roundings) (defBody s_l_roundings) (defScope s_l_roundings) .none kV_l_roundings dc_l_roundings pm_l_roundings an_l_roundings cd_l_roundings ct_l_roundings), sl_l_roundings⟩)
    (c_l_roundings : PySem.W.codeIn K cd_l_roundings "_law_roundings" = true)
    (k_l_roundings : PySem.W.keepIn K (.ref f_l_roundings) = true)
    (a_law : PySem.W.nsIn K mainGlobals "law" = some (some (.ref f_law)))
    (l_law : K.lookup f_law = some ⟨oc_law, od_law, .func (PySem.W.fnOf "law" "law" (defArgs s_law) (defBody s_law) (defScope s_law) .none kV_law dc_law pm_law an_law cd_law ct_law), sl_law⟩)
    (c_law : PySem.W.codeIn K cd_law "law" = true)
    (k_law : PySem.W.keepIn K (.ref f_law) = true)
    (zz_abs : PySem.W.nsIn K mainGlobals "abs" = some none)
    (zz_len : PySem.W.nsIn K mainGlobals "len" = some none)
    (zz_range : PySem.W.nsIn K mainGlobals "range" = some none)
    (zz_min : PySem.W.nsIn K mainGlobals "min" = some none)
    (zz_divmod : PySem.W.nsIn K mainGlobals "divmod" = some none)
    (zz_isinstance : PySem.W.nsIn K mainGlobals "isinstance" = some none)
    (zz_bool : PySem.W.nsIn K mainGlobals "bool" = some none)
    (zz_int : PySem.W.nsIn K mainGlobals "int" = some none)
    (zz_tuple : PySem.W.nsIn K mainGlobals "tuple" = some none)
    (zz_str : PySem.W.nsIn K mainGlobals "str" = some none) : Tx K mg where
  k_Cut := ⟨K_Cut, PySem.W.mg_of X G ak_Cut, ⟨kp_Cut, kh_Cut, ko_Cut, ks_Cut⟩⟩
  k_Down := ⟨K_Down, PySem.W.mg_of X G ak_Down, ⟨kp_Down, kh_Down, ko_Down, ks_Down⟩⟩
  k_Near := ⟨K_Near, PySem.W.mg_of X G ak_Near, ⟨kp_Near, kh_Near, ko_Near, ks_Near⟩⟩
  k_Up := ⟨K_Up, PySem.W.mg_of X G ak_Up, ⟨kp_Up, kh_Up, ko_Up, ks_Up⟩⟩
  m0_Cut := ⟨km_Cut, ki_Cut, kt_Cut, kk_Cut⟩
  m0_Down := ⟨km_Down, ki_Down, kt_Down, kk_Down⟩
  m0_Near := ⟨km_Near, ki_Near, kt_Near, kk_Near⟩
  m0_Up := ⟨km_Up, ki_Up, kt_Up, kk_Up⟩
  d_l_begun := ⟨f_l_begun, _, fun_mk (st := s_l_begun) l_l_begun c_l_begun k_l_begun, (fun_mk (st := s_l_begun) l_l_begun c_l_begun k_l_begun).binds fun _ _ _ _ _ _ us hl => match us, hl with | [_], _ => rfl, PySem.W.mg_of X G a_l_begun⟩
  d_l_draw := ⟨f_l_draw, _, fun_mk (st := s_l_draw) l_l_draw c_l_draw k_l_draw, (fun_mk (st := s_l_draw) l_l_draw c_l_draw k_l_draw).binds fun _ _ _ _ _ _ us hl => match us, hl with | [_, _], _ => rfl, PySem.W.mg_of X G a_l_draw⟩
  d_l_divisor := ⟨f_l_divisor, _, fun_mk (st := s_l_divisor) l_l_divisor c_l_divisor k_l_divisor, (fun_mk (st := s_l_divisor) l_l_divisor c_l_divisor k_l_divisor).binds fun _ _ _ _ _ _ us hl => match us, hl with | [_, _], _ => rfl, PySem.W.mg_of X G a_l_divisor⟩
  d_l_cell := ⟨f_l_cell, _, fun_mk (st := s_l_cell) l_l_cell c_l_cell k_l_cell, (fun_mk (st := s_l_cell) l_l_cell c_l_cell k_l_cell).binds fun _ _ _ _ _ _ us hl => match us, hl with | [_, _], _ => rfl, PySem.W.mg_of X G a_l_cell⟩
  d_l_drawn := ⟨f_l_drawn, _, fun_mk (st := s_l_drawn) l_l_drawn c_l_drawn k_l_drawn, (fun_mk (st := s_l_drawn) l_l_drawn c_l_drawn k_l_drawn).binds fun _ _ _ _ _ _ us hl => match us, hl with | [_], _ => rfl, PySem.W.mg_of X G a_l_drawn⟩
  d_l_summed := ⟨f_l_summed, _, fun_mk (st := s_l_summed) l_l_summed c_l_summed k_l_summed, (fun_mk (st := s_l_summed) l_l_summed c_l_summed k_l_summed).binds fun _ _ _ _ _ _ us hl => match us, hl with | [_], _ => rfl, PySem.W.mg_of X G a_l_summed⟩
  d_Down_adjust := ⟨f_Down_adjust, _, fun_mk (st := s_Down_adjust) l_Down_adjust c_Down_adjust k_Down_adjust, (fun_mk (st := s_Down_adjust) l_Down_adjust c_Down_adjust k_Down_adjust).binds fun _ _ _ _ _ _ us hl => match us, hl with | [_, _, _, _, _], _ => rfl⟩
  mt_Down_adjust := ⟨ma_Down_adjust, mf_Down_adjust, k_Down_adjust⟩
  d_Up_adjust := ⟨f_Up_adjust, _, fun_mk (st := s_Up_adjust) l_Up_adjust c_Up_adjust k_Up_adjust, (fun_mk (st := s_Up_adjust) l_Up_adjust c_Up_adjust k_Up_adjust).binds fun _ _ _ _ _ _ us hl => match us, hl with | [_, _, _, _, _], _ => rfl⟩
  mt_Up_adjust := ⟨ma_Up_adjust, mf_Up_adjust, k_Up_adjust⟩
  d_Way_adjust := ⟨f_Way_adjust, _, fun_mk (st := s_Way_adjust) l_Way_adjust c_Way_adjust k_Way_adjust, (fun_mk (st := s_Way_adjust) l_Way_adjust c_Way_adjust k_Way_adjust).binds fun _ _ _ _ _ _ us hl => match us, hl with | [_, _, _, _, _], _ => rfl⟩
  mt_Cut_adjust := ⟨ma_Cut_adjust, mf_Cut_adjust, k_Way_adjust⟩
  d_Near_adjust := ⟨f_Near_adjust, _, fun_mk (st := s_Near_adjust) l_Near_adjust c_Near_adjust k_Near_adjust, (fun_mk (st := s_Near_adjust) l_Near_adjust c_Near_adjust k_Near_adjust).binds fun _ _ _ _ _ _ us hl => match us, hl with | [_, _, _, _, _], _ => rfl⟩
  mt_Near_adjust := ⟨ma_Near_adjust, mf_Near_adjust, k_Near_adjust⟩
  d_Way_rounded := ⟨f_Way_rounded, _, fun_mk (st := s_Way_rounded) l_Way_rounded c_Way_rounded k_Way_rounded, (fun_mk (st := s_Way_rounded) l_Way_rounded c_Way_rounded k_Way_rounded).binds fun _ _ _ _ _ _ us hl => match us, hl with | [_, _, _], _ => rfl⟩
  mt_Cut_rounded := ⟨ma_Cut_rounded, mf_Cut_rounded, k_Way_rounded⟩
  mt_Down_rounded := ⟨ma_Down_rounded, mf_Down_rounded, k_Way_rounded⟩
  mt_Near_rounded := ⟨ma_Near_rounded, mf_Near_rounded, k_Way_rounded⟩
  mt_Up_rounded := ⟨ma_Up_rounded, mf_Up_rounded, k_Way_rounded⟩
  d_divisor_of := ⟨f_divisor_of, _, fun_mk (st := s_divisor_of) l_divisor_of c_divisor_of k_divisor_of, (fun_mk (st := s_divisor_of) l_divisor_of c_divisor_of k_divisor_of).binds fun _ _ _ _ _ _ us hl => match us, hl with | [_, _], _ => rfl, PySem.W.mg_of X G a_divisor_of⟩
  d_lowest := ⟨f_lowest, _, fun_mk (st := s_lowest) l_lowest c_lowest k_lowest, (fun_mk (st := s_lowest) l_lowest c_lowest k_lowest).binds fun _ _ _ _ _ _ us hl => match us, hl with | [_, _], _ => rfl, PySem.W.mg_of X G a_lowest⟩
  d_by_twos := ⟨f_by_twos, _, fun_mk (st := s_by_twos) l_by_twos c_by_twos k_by_twos, (fun_mk (st := s_by_twos) l_by_twos c_by_twos k_by_twos).binds fun _ _ _ _ _ _ us hl => match us, hl with | [_, _], _ => rfl, PySem.W.mg_of X G a_by_twos⟩
  d_raised := ⟨f_raised, _, fun_mk (st := s_raised) l_raised c_raised k_raised, (fun_mk (st := s_raised) l_raised c_raised k_raised).binds fun _ _ _ _ _ _ us hl => match us, hl with | [_, _], _ => rfl, PySem.W.mg_of X G a_raised⟩
  d_plus := ⟨f_plus, _, fun_mk (st := s_plus) l_plus c_plus k_plus, (fun_mk (st := s_plus) l_plus c_plus k_plus).binds fun _ _ _ _ _ _ us hl => match us, hl with | [_, _], _ => rfl, PySem.W.mg_of X G a_plus⟩
  d_less := ⟨f_less, _, fun_mk (st := s_less) l_less c_less k_less, (fun_mk (st := s_less) l_less c_less k_less).binds fun _ _ _ _ _ _ us hl => match us, hl with | [_, _], _ => rfl, PySem.W.mg_of X G a_less⟩
  d_times := ⟨f_times, _, fun_mk (st := s_times) l_times c_times k_times, (fun_mk (st := s_times) l_times c_times k_times).binds fun _ _ _ _ _ _ us hl => match us, hl with | [_, _], _ => rfl, PySem.W.mg_of X G a_times⟩
  d_l_whole := ⟨f_l_whole, _, fun_mk (st := s_l_whole) l_l_whole c_l_whole k_l_whole, (fun_mk (st := s_l_whole) l_l_whole c_l_whole k_l_whole).binds fun _ _ _ _ _ _ us hl => match us, hl with | [_], _ => rfl, PySem.W.mg_of X G a_l_whole⟩
  d_l_is_fraction := ⟨f_l_is_fraction, _, fun_mk (st := s_l_is_fraction) l_l_is_fraction c_l_is_fraction k_l_is_fraction, (fun_mk (st := s_l_is_fraction) l_l_is_fraction c_l_is_fraction k_l_is_fraction).binds fun _ _ _ _ _ _ us hl => match us, hl with | [_], _ => rfl, PySem.W.mg_of X G a_l_is_fraction⟩
  d_l_halves := ⟨f_l_halves, _, fun_mk (st := s_l_halves) l_l_halves c_l_halves k_l_halves, (fun_mk (st := s_l_halves) l_l_halves c_l_halves k_l_halves).binds fun _ _ _ _ _ _ us hl => match us, hl with | [_], _ => rfl, PySem.W.mg_of X G a_l_halves⟩
  d_minus := ⟨f_minus, _, fun_mk (st := s_minus) l_minus c_minus k_minus, (fun_mk (st := s_minus) l_minus c_minus k_minus).binds fun _ _ _ _ _ _ us hl => match us, hl with | [_, _], _ => rfl, PySem.W.mg_of X G a_minus⟩
  d_l_left_over := ⟨f_l_left_over, _, fun_mk (st := s_l_left_over) l_l_left_over c_l_left_over k_l_left_over, (fun_mk (st := s_l_left_over) l_l_left_over c_l_left_over k_l_left_over).binds fun _ _ _ _ _ _ us hl => match us, hl with | [_, _], _ => rfl, PySem.W.mg_of X G a_l_left_over⟩
  d_all_ways := ⟨f_all_ways, _, fun_mk (st := s_all_ways) l_all_ways c_all_ways k_all_ways, (fun_mk (st := s_all_ways) l_all_ways c_all_ways k_all_ways).binds fun _ _ _ _ _ _ us hl => match us, hl with | [], _ => rfl, PySem.W.mg_of X G a_all_ways⟩
  d_way_of := ⟨f_way_of, _, fun_mk (st := s_way_of) l_way_of c_way_of k_way_of, (fun_mk (st := s_way_of) l_way_of c_way_of k_way_of).binds fun _ _ _ _ _ _ us hl => match us, hl with | [_], _ => rfl, PySem.W.mg_of X G a_way_of⟩
  d_l_right := ⟨f_l_right, _, fun_mk (st := s_l_right) l_l_right c_l_right k_l_right, (fun_mk (st := s_l_right) l_l_right c_l_right k_l_right).binds fun _ _ _ _ _ _ us hl => match us, hl with | [_, _, _, _], _ => rfl, PySem.W.mg_of X G a_l_right⟩
  d_l_roundings := ⟨f_l_roundings, _, fun_mk (st := s_l_roundings) l_l_roundings c_l_roundings k_l_roundings, (fun_mk (st := s_l_roundings) l_l_roundings c_l_roundings k_l_roundings).binds fun _ _ _ _ _ _ us hl => match us, hl with | [_], _ => rfl, PySem.W.mg_of X G a_l_roundings⟩
  d_law := ⟨f_law, _, fun_mk (st := s_law) l_law c_law k_law, (fun_mk (st := s_law) l_law c_law k_law).binds fun _ _ _ _ _ _ us hl => match us, hl with | [_], _ => rfl, PySem.W.mg_of X G a_law⟩
  z_abs := PySem.W.mg_none_of X G zz_abs
  z_len := PySem.W.mg_none_of X G zz_len
  z_range := PySem.W.mg_none_of X G zz_range
  z_min := PySem.W.mg_none_of X G zz_min
  z_divmod := PySem.W.mg_none_of X G zz_divmod
  z_isinstance := PySem.W.mg_none_of X G zz_isinstance
  z_bool := PySem.W.mg_none_of X G zz_bool
  z_int := PySem.W.mg_none_of X G zz_int
  z_tuple := PySem.W.mg_none_of X G zz_tuple
  z_str := PySem.W.mg_none_of X G zz_str
theorem all_mk {l : PySem.W.OpenLaw} {w : World} {K : PySem.W.Frag} {h : Heap} {mg : Str → Option Value} {fa : Addr} (hfa : mg "law" = some (.ref fa)) (T : Tx K mg) :
    ∃ fd : FuncData, (∀ (s : Shared) (v : Value), BindsTo s fd ⟨[v], []⟩ [("_law_script", v)]) ∧ ∀ base : Heap, K.In base → base.Ns mainGlobals mg → FnOk l.prog w K mg base CX0 12 fa fd ["_law_script"] (sp_law K) := by
  have e := hfa.symm.trans T.d_law.m
  cases e
  refine ⟨T.d_law.fd, fun s v => ?_, fun base _ _ => ok_law T⟩
  obtain ⟨oc, od, kV, doc, pm, an, cdv, ct, osl, e, _, _⟩ := T.d_law.F.ex
  rw [e]
  exact .of_eq rfl
theorem walk {l : PySem.W.OpenLaw} {q : Program} {loose : List Str} {XP : (Str → Option Value) → Heap → Prop} {YP : World → Heap → Prop} {d : DefRec} {K : Params → PySem.W.Frag} (hn : l.most = some 63) (hdf : d.params.defaults = [])
    (hY : ∀ (w : World) (h : Heap), YP w h → (K w.params).In h)
    (F : ∀ (w : World) (mg : Str → Option Value) (fa : Addr) (h : Heap), (K w.params).In h → h.Ns mainGlobals mg → mg d.name = some (.ref fa) →
      ∃ fd : FuncData, (∀ (s : Shared) (u : Value), BindsTo s fd ⟨[u], []⟩ [("_law_script", u)]) ∧ ∀ base : Heap, (K w.params).In base → base.Ns mainGlobals mg → FnOk l.prog w (K w.params) mg base CX0 12 fa fd ["_law_script"] (sp_law (K w.params))) :
    PySem.W.WalkO q loose XP YP l.row.toRowW d [] (fun f vs => PySem.call f vs) :=
  L2.walk_of (n := 63) (k := 12) (x := "_law_script") (CX := fun _ => CX0) (sp := fun w => sp_law (K w.params)) hn (by decide) hdf ⟨rfl, by decide, by decide⟩ hY F (fun _ _ a ns hl _ hS => ⟨a, ns, rfl, hS, hl, fun _ _ => rfl⟩) fun _ _ _ _ _ z => z
end Ow
open PySem PySem.W PyProof.Rows
set_option maxRecDepth 100000 in
set_option maxHeartbeats 0 in
set_option pp.deepTerms.threshold 3 in
set_option pp.maxSteps 150 in
theorem PySem.Challenge.cw_overwise_k19_whole_sums_and_roundings_holds : PySem.Challenge.rw_overwise_k19_whole_sums_and_roundings.Holds := by
  w_on; o_law; k_head; (case hw => w_witness2)
  k_fill
  refine _root_.Ow.walk (l := PySem.Challenge.rw_overwise_k19_whole_sums_and_roundings) rfl rfl (fun w h Y => PySem.W.kIn_of Y) ?F
  case F =>
    intro w mg fa h KX G hmg
    refine' _root_.Ow.all_mk (h := h) hmg (_root_.Ow.tx_mk KX G ?ak_Cut ?kp_Cut ?kh_Cut ?ko_Cut ?ks_Cut ?ak_Down ?kp_Down ?kh_Down ?ko_Down ?ks_Down ?ak_Near ?kp_Near ?kh_Near ?ko_Near ?ks_Near ?ak_Up ?kp_Up ?kh_Up ?ko_Up ?ks_Up ?km_Cut ?ki_Cut ?kt_Cut ?kk_Cut ?km_Down ?ki_Down ?kt_Down ?kk_Down ?km_Near ?ki_Near ?kt_Near ?kk_Near ?km_Up ?ki_Up ?kt_Up ?kk_Up ?a_l_begun ?l_l_begun ?c_l_begun ?k_l_begun ?a_l_draw ?l_l_draw ?c_l_draw ?k_l_draw ?a_l_divisor ?l_l_divisor ?c_l_divisor ?k_l_divisor ?a_l_cell ?l_l_cell ?c_l_cell ?k_l_cell ?a_l_drawn ?l_l_drawn ?c_l_drawn ?k_l_drawn ?a_l_summed ?l_l_summed ?c_l_summed ?k_l_summed ?l_Down_adjust ?c_Down_adjust ?k_Down_adjust ?ma_Down_adjust ?mf_Down_adjust ?l_Up_adjust ?c_Up_adjust ?k_Up_adjust ?ma_Up_adjust ?mf_Up_adjust ?l_Way_adjust ?c_Way_adjust ?k_Way_adjust ?ma_Cut_adjust ?mf_Cut_adjust ?l_Near_adjust ?c_Near_adjust ?k_Near_adjust ?ma_Near_adjust ?mf_Near_adjust ?l_Way_rounded ?c_Way_rounded ?k_Way_rounded ?ma_Cut_rounded ?mf_Cut_rounded ?ma_Down_rounded ?mf_Down_rounded ?ma_Near_rounded ?mf_Near_rounded ?ma_Up_rounded ?mf_Up_rounded ?a_divisor_of ?l_divisor_of ?c_divisor_of ?k_divisor_of ?a_lowest ?l_lowest ?c_lowest ?k_lowest ?a_by_twos ?l_by_twos ?c_by_twos ?k_by_twos ?a_raised ?l_raised ?c_raised ?k_raised ?a_plus ?l_plus ?c_plus ?k_plus ?a_less ?l_less ?c_less ?k_less ?a_times ?l_times ?c_times ?k_times ?a_l_whole ?l_l_whole ?c_l_whole ?k_l_whole ?a_l_is_fraction ?l_l_is_fraction ?c_l_is_fraction ?k_l_is_fraction ?a_l_halves ?l_l_halves ?c_l_halves ?k_l_halves ?a_minus ?l_minus ?c_minus ?k_minus ?a_l_left_over ?l_l_left_over ?c_l_left_over ?k_l_left_over ?a_all_ways ?l_all_ways ?c_all_ways ?k_all_ways ?a_way_of ?l_way_of ?c_way_of ?k_way_of ?a_l_right ?l_l_right ?c_l_right ?k_l_right ?a_l_roundings ?l_l_roundings ?c_l_roundings ?k_l_roundings ?a_law ?l_law ?c_law ?k_law ?zz_abs ?zz_len ?zz_range ?zz_min ?zz_divmod ?zz_isinstance ?zz_bool ?zz_int ?zz_tuple ?zz_str)
    (case ak_Cut => k_is)
    (case kp_Cut => k_is)
    (case ak_Down => k_is)
    (case kp_Down => k_is)
    (case ak_Near => k_is)
    (case kp_Near => k_is)
    (case ak_Up => k_is)
    (case kp_Up => k_is)
    (case ma_Down_adjust => k_is)
    (case ma_Up_adjust => k_is)
    (case ma_Cut_adjust => k_is)
    (case ma_Near_adjust => k_is)
    (case ma_Cut_rounded => k_is)
    (case ma_Down_rounded => k_is)
    (case ma_Near_rounded => k_is)
    (case ma_Up_rounded => k_is)
    (case kh_Cut => k_is)
    (case ko_Cut => k_is)
    (case ks_Cut => k_is)
    (case kh_Down => k_is)
    (case ko_Down => k_is)
    (case ks_Down => k_is)
    (case kh_Near => k_is)
    (case ko_Near => k_is)
    (case ks_Near => k_is)
    (case kh_Up => k_is)
    (case ko_Up => k_is)
    (case ks_Up => k_is)
    (case km_Cut => k_is)
    (case ki_Cut => k_is)
    (case kt_Cut => k_is)
    (case kk_Cut => k_is)
    (case km_Down => k_is)
    (case ki_Down => k_is)
    (case kt_Down => k_is)
    (case kk_Down => k_is)
    (case km_Near => k_is)
    (case ki_Near => k_is)
    (case kt_Near => k_is)
    (case kk_Near => k_is)
    (case km_Up => k_is)
    (case ki_Up => k_is)
    (case kt_Up => k_is)
    (case kk_Up => k_is)
    (case a_l_begun => k_is)
    (case l_l_begun => k_is)
    (case c_l_begun => k_is)
    (case k_l_begun => k_is)
    (case a_l_draw => k_is)
    (case l_l_draw => k_is)
    (case c_l_draw => k_is)
    (case k_l_draw => k_is)
    (case a_l_divisor => k_is)
    (case l_l_divisor => k_is)
    (case c_l_divisor => k_is)
    (case k_l_divisor => k_is)
    (case a_l_cell => k_is)
    (case l_l_cell => k_is)
    (case c_l_cell => k_is)
    (case k_l_cell => k_is)
    (case a_l_drawn => k_is)
    (case l_l_drawn => k_is)
    (case c_l_drawn => k_is)
    (case k_l_drawn => k_is)
    (case a_l_summed => k_is)
    (case l_l_summed => k_is)
    (case c_l_summed => k_is)
    (case k_l_summed => k_is)
    (case l_Down_adjust => k_is)
    (case c_Down_adjust => k_is)
    (case k_Down_adjust => k_is)
    (case mf_Down_adjust => k_is)
    (case l_Up_adjust => k_is)
    (case c_Up_adjust => k_is)
    (case k_Up_adjust => k_is)
    (case mf_Up_adjust => k_is)
    (case l_Way_adjust => k_is)
    (case c_Way_adjust => k_is)
    (case k_Way_adjust => k_is)
    (case mf_Cut_adjust => k_is)
    (case l_Near_adjust => k_is)
    (case c_Near_adjust => k_is)
    (case k_Near_adjust => k_is)
    (case mf_Near_adjust => k_is)
    (case l_Way_rounded => k_is)
    (case c_Way_rounded => k_is)
    (case k_Way_rounded => k_is)
    (case mf_Cut_rounded => k_is)
    (case mf_Down_rounded => k_is)
    (case mf_Near_rounded => k_is)
    (case mf_Up_rounded => k_is)
    (case a_divisor_of => k_is)
    (case l_divisor_of => k_is)
    (case c_divisor_of => k_is)
    (case k_divisor_of => k_is)
    (case a_lowest => k_is)
    (case l_lowest => k_is)
    (case c_lowest => k_is)
    (case k_lowest => k_is)
    (case a_by_twos => k_is)
    (case l_by_twos => k_is)
    (case c_by_twos => k_is)
    (case k_by_twos => k_is)
    (case a_raised => k_is)
    (case l_raised => k_is)
    (case c_raised => k_is)
    (case k_raised => k_is)
    (case a_plus => k_is)
    (case l_plus => k_is)
    (case c_plus => k_is)
    (case k_plus => k_is)
    (case a_less => k_is)
    (case l_less => k_is)
    (case c_less => k_is)
    (case k_less => k_is)
    (case a_times => k_is)
    (case l_times => k_is)
    (case c_times => k_is)
    (case k_times => k_is)
    (case a_l_whole => k_is)
    (case l_l_whole => k_is)
    (case c_l_whole => k_is)
    (case k_l_whole => k_is)
    (case a_l_is_fraction => k_is)
    (case l_l_is_fraction => k_is)
    (case c_l_is_fraction => k_is)
    (case k_l_is_fraction => k_is)
    (case a_l_halves => k_is)
    (case l_l_halves => k_is)
    (case c_l_halves => k_is)
    (case k_l_halves => k_is)
    (case a_minus => k_is)
    (case l_minus => k_is)
    (case c_minus => k_is)
    (case k_minus => k_is)
    (case a_l_left_over => k_is)
    (case l_l_left_over => k_is)
    (case c_l_left_over => k_is)
    (case k_l_left_over => k_is)
    (case a_all_ways => k_is)
    (case l_all_ways => k_is)
    (case c_all_ways => k_is)
    (case k_all_ways => k_is)
    (case a_way_of => k_is)
    (case l_way_of => k_is)
    (case c_way_of => k_is)
    (case k_way_of => k_is)
    (case a_l_right => k_is)
    (case l_l_right => k_is)
    (case c_l_right => k_is)
    (case k_l_right => k_is)
    (case a_l_roundings => k_is)
    (case l_l_roundings => k_is)
    (case c_l_roundings => k_is)
    (case k_l_roundings => k_is)
    (case a_law => k_is)
    (case l_law => k_is)
    (case c_law => k_is)
    (case k_law => k_is)
    (case zz_abs => k_is)
    (case zz_len => k_is)
    (case zz_range => k_is)
    (case zz_min => k_is)
    (case zz_divmod => k_is)
    (case zz_isinstance => k_is)
    (case zz_bool => k_is)
    (case zz_int => k_is)
    (case zz_tuple => k_is)
    (case zz_str => k_is)
